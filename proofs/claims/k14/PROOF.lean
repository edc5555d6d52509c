import PyProof.Rows.All
import Wide.All
import OpenK.AllK
import Wide.FinOn
import HandS.ForMost
import HandS.Flow
import HandS.IsInst
import HandS.Defaults
import HandS.Exc
import HandS.TupAny
import HandS.TupMul
import PyProof.ReprRoads
import HandS.Dict
import PyProof.StrBlock2
import PyProof.ListStr
import PyProof.TupleOfStr
import HandS.Style
import HandS.SetBool
import HandS.Strs
import KE.GoesNew
import KE.GoesEnumKw
import HandS.Ends
import HandS.SetFor
import PyProof.Rows.SortShellAny
import HandS.DictComp
import HandS.MakeKwOnly
import HandS.Conv
import PyProof.Rows.Range3
import HandS.NoneIn
import HandS.Words
import HandS.HeadHook1
import PySem.Challenge.RW_lastcoat_k14_whole_alike_from_every_pict
set_option linter.all false
/-! GU: rows of texts put in order, each once. -/
namespace G
def insU (x : List Nat) : List (List Nat) → List (List Nat)
  | [] => [x]
  | y :: r => if x < y then x :: y :: r else if y < x then y :: insU x r else y :: r
def sortU (l : List (List Nat)) : List (List Nat) := l.foldr insU []
theorem tx_tri {a b : List Nat} (h1 : ¬ a < b) (h2 : ¬ b < a) : a = b := List.le_antisymm (List.not_lt.mp h2) (List.not_lt.mp h1)
theorem mem_insU {x z : List Nat} : ∀ {l : List (List Nat)}, z ∈ insU x l ↔ z = x ∨ z ∈ l
  | [] => by simp [insU]
  | y :: r => by
    unfold insU
    split
    · simp
    · split
      · rw [List.mem_cons, mem_insU (l := r), List.mem_cons]
        constructor
        · rintro (h | h | h) <;> simp [h]
        · rintro (h | h | h) <;> simp [h]
      · rename_i h1 h2
        have e := tx_tri h1 h2
        subst e
        simp
theorem insU_up {x : List Nat} : ∀ {l : List (List Nat)}, l.Pairwise (· < ·) → (insU x l).Pairwise (· < ·)
  | [], _ => by simp [insU]
  | y :: r, h => by
    unfold insU
    rw [List.pairwise_cons] at h
    split
    · rename_i h1
      rw [List.pairwise_cons, List.pairwise_cons]
      refine ⟨fun z hz => ?_, h⟩
      rcases List.mem_cons.mp hz with rfl | hz
      · exact h1
      · exact List.lt_trans h1 (h.1 z hz)
    · split
      · rename_i h1 h2
        rw [List.pairwise_cons]
        refine ⟨fun z hz => ?_, insU_up h.2⟩
        rcases mem_insU.mp hz with rfl | hz
        · exact h2
        · exact h.1 z hz
      · rw [List.pairwise_cons]; exact h
theorem mem_sortU {z : List Nat} : ∀ {l : List (List Nat)}, z ∈ sortU l ↔ z ∈ l
  | [] => by simp [sortU]
  | y :: r => by
    have := mem_sortU (z := z) (l := r)
    unfold sortU at this ⊢
    rw [List.foldr_cons, mem_insU, this, List.mem_cons]
theorem sortU_up : ∀ (l : List (List Nat)), (sortU l).Pairwise (· < ·)
  | [] => List.Pairwise.nil
  | y :: r => insU_up (sortU_up r)
theorem up_eq : ∀ {a b : List (List Nat)}, a.Pairwise (· < ·) → b.Pairwise (· < ·) → (∀ x, x ∈ a ↔ x ∈ b) → a = b
  | [], [], _, _, _ => rfl
  | [], y :: b, _, _, h => by have := (h y).mpr (by simp); cases this
  | x :: a, [], _, _, h => by have := (h x).mp (by simp); cases this
  | x :: a, y :: b, ha, hb, h => by
    rw [List.pairwise_cons] at ha hb
    have e : x = y := by
      rcases List.mem_cons.mp ((h x).mp (by simp)) with e | hx
      · exact e
      · rcases List.mem_cons.mp ((h y).mpr (by simp)) with e | hy
        · exact e.symm
        · exact absurd (List.lt_trans (hb.1 x hx) (ha.1 y hy)) (List.lt_irrefl _)
    subst e
    congr 1
    refine up_eq ha.2 hb.2 fun z => ⟨fun hz => ?_, fun hz => ?_⟩
    · rcases List.mem_cons.mp ((h z).mp (by simp [hz])) with e | hz'
      · subst e; exact absurd (ha.1 _ hz) (List.lt_irrefl _)
      · exact hz'
    · rcases List.mem_cons.mp ((h z).mpr (by simp [hz])) with e | hz'
      · subst e; exact absurd (hb.1 _ hz) (List.lt_irrefl _)
      · exact hz'
/-! ints put in order, each once -/
def insI (x : Int) : List Int → List Int
  | [] => [x]
  | y :: r => if x < y then x :: y :: r else if y < x then y :: insI x r else y :: r
def sortI (l : List Int) : List Int := l.foldr insI []
theorem mem_insI {x z : Int} : ∀ {l : List Int}, z ∈ insI x l ↔ z = x ∨ z ∈ l
  | [] => by simp [insI]
  | y :: r => by
    unfold insI
    split
    · simp
    · split
      · rw [List.mem_cons, mem_insI (l := r), List.mem_cons]
        constructor
        · rintro (h | h | h) <;> simp [h]
        · rintro (h | h | h) <;> simp [h]
      · have e : x = y := by omega
        subst e
        simp
theorem insI_up {x : Int} : ∀ {l : List Int}, l.Pairwise (· < ·) → (insI x l).Pairwise (· < ·)
  | [], _ => by simp [insI]
  | y :: r, h => by
    unfold insI
    rw [List.pairwise_cons] at h
    split
    · rename_i h1
      rw [List.pairwise_cons, List.pairwise_cons]
      refine ⟨fun z hz => ?_, h⟩
      rcases List.mem_cons.mp hz with rfl | hz
      · exact h1
      · have := h.1 z hz; omega
    · split
      · rename_i h1 h2
        rw [List.pairwise_cons]
        refine ⟨fun z hz => ?_, insI_up h.2⟩
        rcases mem_insI.mp hz with rfl | hz
        · exact h2
        · exact h.1 z hz
      · rw [List.pairwise_cons]; exact h
theorem mem_sortI {z : Int} : ∀ {l : List Int}, z ∈ sortI l ↔ z ∈ l
  | [] => by simp [sortI]
  | y :: r => by
    have := mem_sortI (z := z) (l := r)
    unfold sortI at this ⊢
    rw [List.foldr_cons, mem_insI, this, List.mem_cons]
theorem sortI_up : ∀ (l : List Int), (sortI l).Pairwise (· < ·)
  | [] => List.Pairwise.nil
  | y :: r => insI_up (sortI_up r)
theorem upI_eq : ∀ {a b : List Int}, a.Pairwise (· < ·) → b.Pairwise (· < ·) → (∀ x, x ∈ a ↔ x ∈ b) → a = b
  | [], [], _, _, _ => rfl
  | [], y :: b, _, _, h => by have := (h y).mpr (by simp); cases this
  | x :: a, [], _, _, h => by have := (h x).mp (by simp); cases this
  | x :: a, y :: b, ha, hb, h => by
    rw [List.pairwise_cons] at ha hb
    have e : x = y := by
      rcases List.mem_cons.mp ((h x).mp (by simp)) with e | hx
      · exact e
      · rcases List.mem_cons.mp ((h y).mpr (by simp)) with e | hy
        · exact e.symm
        · have h1 := hb.1 x hx
          have h2 := ha.1 y hy
          omega
    subst e
    rw [upI_eq ha.2 hb.2 fun z => ?_]
    constructor
    · intro hz
      rcases List.mem_cons.mp ((h z).mp (List.mem_cons_of_mem _ hz)) with e | hz'
      · subst e; have := ha.1 z hz; omega
      · exact hz'
    · intro hz
      rcases List.mem_cons.mp ((h z).mpr (List.mem_cons_of_mem _ hz)) with e | hz'
      · subst e; have := hb.1 z hz; omega
      · exact hz'
end G
set_option Elab.async false
set_option linter.all false
set_option maxRecDepth 100000
set_option maxHeartbeats 4000000
/-! G0: plain data, the store of changing objects, and how they stand in the abstract heap. -/
namespace G
open PySem L2
/-- plain data: tuples and lists that never change any more are written out; what may change is named by its address -/
inductive D where
  | non | bl (b : Bool) | int (i : Int) | str (s : List Nat) | tup (xs : List D) | lst (xs : List D) | lsk (xs : List D) | obj (a : Addr) | ty (n : String) | gl (x : Str)
  | ins (C : Str) (ns : List Str) (vs : List D) | dct (ks vs : List D)
/-- what stands at an address that may change -/
inductive O where
  | lst (xs : List D) | ins (C : Str) (fs : List (Str × D)) | dct (kvs : List (D × D))
abbrev Sto := Addr → Option O
def Sto.set (S : Sto) (a : Addr) (o : O) : Sto := fun b => if b = a then some o else S b
theorem Sto.set_same {S : Sto} {a : Addr} {o : O} : S.set a o a = some o := by unfold Sto.set; rw [if_pos rfl]
theorem Sto.set_ne {S : Sto} {a b : Addr} {o : O} (h : b ≠ a) : S.set a o b = S b := by unfold Sto.set; rw [if_neg h]
structure Exn where
  cls : Str
  fs : List (Str × D)
def KT (K : PySem.W.Frag) (a : Addr) (xs : List V) : Prop :=
  ∃ (o : Obj) (its : Array Value) (n : Nat), K.lookup a = some o ∧ o.cls = .type "tuple" ∧ o.data = .seq its n ∧ its.size ≤ sizeLine ∧ Vals xs its.toList
def KL (K : PySem.W.Frag) (a : Addr) (xs : List V) : Prop :=
  ∃ (o : Obj) (its : Array Value) (n : Nat), K.lookup a = some o ∧ o.cls = .type "list" ∧ o.dict = none ∧ o.data = .seq its n ∧ its.size ≤ sizeLine ∧ Vals xs its.toList
abbrev mkS (s : List Nat) : Str := ⟨s.toArray⟩
/-- where we stand: the written part, the module's names, lists that comprehensions are making -/
structure Gx where
  K : PySem.W.Frag
  mg : Str → Option Value
  B : List Addr
def toKey : D → Option Key
  | .int i => some (.inl i)
  | .str s => some (.inr (mkS s))
  | _ => none
section
variable (g : Gx) (S : Sto) (H : Hp)
mutual
def RD : D → V → Prop
  | .non, v => v = .non
  | .bl b, v => v = .bl b
  | .int i, v => v = .int i
  | .str s, v => v = .str (mkS s) ∧ ∀ c ∈ s, c < 0x110000
  | .tup xs, v => ∃ a vs, v = .ref a ∧ ((S a = none ∧ a ∉ g.B ∧ Rd H a (.tup vs)) ∨ KT g.K a vs) ∧ RDs xs vs
  | .lst xs, v => ∃ a vs, v = .ref a ∧ S a = none ∧ a ∉ g.B ∧ Rd H a (.lst vs) ∧ RDs xs vs
  | .lsk xs, v => ∃ a vs, v = .ref a ∧ ((S a = none ∧ a ∉ g.B ∧ Rd H a (.lst vs)) ∨ KL g.K a vs) ∧ RDs xs vs
  | .obj a, v => v = .ref a
  | .ty n, v => v = .ty n
  | .gl x, v => ∃ a, v = .ref a ∧ g.mg x = some (.ref a)
  | .ins C ns ds, v => ∃ (a c dx : Addr) (vs : List V), v = .ref a ∧ (S a = none ∧ a ∉ g.B ∧ H a = some (.ins c dx (ns.zip vs))) ∧ (S dx = none ∧ dx ∉ g.B ∧ H dx = some (.own a)) ∧ g.mg C = some (.ref c) ∧ ns.length = ds.length ∧ RDs ds vs
  | .dct ks ds, v => ∃ (a : Addr) (qs : List Key) (vs : List V), v = .ref a ∧ (S a = none ∧ a ∉ g.B ∧ H a = some (.dK (qs.zip vs))) ∧ ks.map toKey = qs.map some ∧ ks.length = ds.length ∧ RDs ds vs
def RDs : List D → List V → Prop
  | [], vs => vs = []
  | d :: ds, vs => ∃ v r, vs = v :: r ∧ RD d v ∧ RDs ds r
end
def RFs : List (Str × D) → List (Str × V) → Prop
  | [], gs => gs = []
  | (x, d) :: fs, gs => ∃ v r, gs = (x, v) :: r ∧ RD g S H d v ∧ RFs fs r
def RKs : List (D × D) → List (Key × V) → Prop
  | [], gs => gs = []
  | (k, d) :: fs, gs => ∃ q v r, gs = (q, v) :: r ∧ toKey k = some q ∧ RD g S H d v ∧ RKs fs r
def RO (a : Addr) : O → Prop
  | .lst xs => ∃ vs, H a = some (.lst vs) ∧ RDs g S H xs vs
  | .ins C fs => ∃ c dx gs, g.mg C = some (.ref c) ∧ H a = some (.ins c dx gs) ∧ (S dx = none ∧ dx ∉ g.B) ∧ H dx = some (.own a) ∧ RFs g S H fs gs
  | .dct kvs => ∃ gs, H a = some (.dK gs) ∧ RKs g S H kvs gs
/-- the store stands in the heap -/
def RS : Prop := (∀ a o, S a = some o → a ∉ g.B ∧ RO g S H a o) ∧ ∀ b ∈ g.B, S b = none ∧ ∃ o, H b = some o
def RX (e : Exn) (c : Value) (d : Option Addr) : Prop :=
  ∃ C, g.mg e.cls = some (.ref C) ∧ c = .ref C ∧ (e.fs = [] ∨ ∃ dx gs, d = some dx ∧ H dx = some (.xd gs) ∧ S dx = none ∧ RFs g S H e.fs gs)
end
/-- all that is tracked and may not change stays -/
def Step (S : Sto) (H : Hp) (S' : Sto) (H' : Hp) : Prop := ∀ a o, H a = some o → S a = none → H' a = some o ∧ S' a = none
theorem Step.refl (S : Sto) (H : Hp) : Step S H S H := fun _ _ h k => ⟨h, k⟩
theorem Step.trans {S S1 S2 : Sto} {H H1 H2 : Hp} (a : Step S H S1 H1) (b : Step S1 H1 S2 H2) : Step S H S2 H2 := fun x o h k =>
  let ⟨h1, k1⟩ := a x o h k
  b x o h1 k1
section
variable {g : Gx} {S S' : Sto} {H H' : Hp}
theorem Step.rd (st : Step S H S' H') {a : Addr} {u : HO} (k : S a = none) (h : Rd H a u) : S' a = none ∧ Rd H' a u := by
  rcases h with h | ⟨o, h⟩
  · exact ⟨(st _ _ h k).2, .inl (st _ _ h k).1⟩
  · exact ⟨(st _ _ h k).2, .inr ⟨o, (st _ _ h k).1⟩⟩
mutual
theorem RD.mono (st : Step S H S' H') : ∀ (d : D) (v : V), RD g S H d v → RD g S' H' d v
  | .non, v, h => by unfold RD at *; exact h
  | .bl b, v, h => by unfold RD at *; exact h
  | .int i, v, h => by unfold RD at *; exact h
  | .str s, v, h => by unfold RD at *; exact h
  | .tup xs, v, h => by
    unfold RD at *
    obtain ⟨a, vs, e, k, r⟩ := h
    refine ⟨a, vs, e, ?_, RDs.mono st xs vs r⟩
    rcases k with ⟨k, nb, q⟩ | k
    · exact .inl ⟨(st.rd k q).1, nb, (st.rd k q).2⟩
    · exact .inr k
  | .lst xs, v, h => by
    unfold RD at *
    obtain ⟨a, vs, e, k, nb, q, r⟩ := h
    exact ⟨a, vs, e, (st.rd k q).1, nb, (st.rd k q).2, RDs.mono st xs vs r⟩
  | .lsk xs, v, h => by
    unfold RD at *
    obtain ⟨a, vs, e, k, r⟩ := h
    refine ⟨a, vs, e, ?_, RDs.mono st xs vs r⟩
    rcases k with ⟨k, nb, q⟩ | k
    · exact .inl ⟨(st.rd k q).1, nb, (st.rd k q).2⟩
    · exact .inr k
  | .obj a, v, h => by unfold RD at *; exact h
  | .ty n, v, h => by unfold RD at *; exact h
  | .gl x, v, h => by unfold RD at *; exact h
  | .ins C ns ds, v, h => by
    unfold RD at *
    obtain ⟨a, c, dx, vs, e, ⟨k, nb, q⟩, ⟨k', nb', q'⟩, m, l, r⟩ := h
    exact ⟨a, c, dx, vs, e, ⟨(st a _ q k).2, nb, (st a _ q k).1⟩, ⟨(st dx _ q' k').2, nb', (st dx _ q' k').1⟩, m, l, RDs.mono st ds vs r⟩
  | .dct ks ds, v, h => by
    unfold RD at *
    obtain ⟨a, qs, vs, e, ⟨k, nb, q⟩, m, l, r⟩ := h
    exact ⟨a, qs, vs, e, ⟨(st a _ q k).2, nb, (st a _ q k).1⟩, m, l, RDs.mono st ds vs r⟩
theorem RDs.mono (st : Step S H S' H') : ∀ (ds : List D) (vs : List V), RDs g S H ds vs → RDs g S' H' ds vs
  | [], vs, h => by unfold RDs at *; exact h
  | d :: ds, vs, h => by
    unfold RDs at *
    obtain ⟨v, r, e, h1, h2⟩ := h
    exact ⟨v, r, e, RD.mono st d v h1, RDs.mono st ds r h2⟩
end
theorem RFs.mono (st : Step S H S' H') : ∀ {fs : List (Str × D)} {gs : List (Str × V)}, RFs g S H fs gs → RFs g S' H' fs gs
  | [], _, h => h
  | (x, d) :: fs, _, ⟨v, r, e, h1, h2⟩ => ⟨v, r, e, h1.mono st, RFs.mono st h2⟩
theorem RKs.mono (st : Step S H S' H') : ∀ {fs : List (D × D)} {gs : List (Key × V)}, RKs g S H fs gs → RKs g S' H' fs gs
  | [], _, h => h
  | (x, d) :: fs, _, ⟨q, v, r, e, k, h1, h2⟩ => ⟨q, v, r, e, k, h1.mono st, RKs.mono st h2⟩
theorem RDs.length : ∀ {ds : List D} {vs : List V}, RDs g S H ds vs → ds.length = vs.length
  | [], vs, h => by unfold RDs at h; subst h; rfl
  | d :: ds, vs, h => by
    unfold RDs at h
    obtain ⟨v, r, e, _, h2⟩ := h
    subst e
    simp [RDs.length h2]
theorem RDs.nil : RDs g S H [] [] := by unfold RDs; rfl
theorem RDs.cons {d : D} {v : V} {ds : List D} {vs : List V} (h : RD g S H d v) (r : RDs g S H ds vs) : RDs g S H (d :: ds) (v :: vs) := by
  unfold RDs; exact ⟨v, vs, rfl, h, r⟩
theorem RDs.append : ∀ {ds es : List D} {vs us : List V}, RDs g S H ds vs → RDs g S H es us → RDs g S H (ds ++ es) (vs ++ us)
  | [], es, vs, us, h, k => by unfold RDs at h; subst h; exact k
  | d :: ds, es, vs, us, h, k => by
    unfold RDs at h
    obtain ⟨v, r, e, h1, h2⟩ := h
    subst e
    exact RDs.cons h1 (RDs.append h2 k)
theorem RDs.get : ∀ {ds : List D} {vs : List V}, RDs g S H ds vs → ∀ (i : Nat) (d : D), ds[i]? = some d → ∃ v, vs[i]? = some v ∧ RD g S H d v
  | [], vs, h, i, d, e => by simp at e
  | d0 :: ds, vs, h, i, d, e => by
    unfold RDs at h
    obtain ⟨v, r, e0, h1, h2⟩ := h
    subst e0
    cases i with
    | zero => simp at e; subst e; exact ⟨v, by simp, h1⟩
    | succ i => simpa using RDs.get h2 i d (by simpa using e)
theorem RDs.get' : ∀ {ds : List D} {vs : List V}, RDs g S H ds vs → ∀ (i : Nat) (v : V), vs[i]? = some v → ∃ d, ds[i]? = some d ∧ RD g S H d v
  | [], vs, h, i, v, e => by unfold RDs at h; subst h; simp at e
  | d0 :: ds, vs, h, i, v, e => by
    unfold RDs at h
    obtain ⟨v0, r, e0, h1, h2⟩ := h
    subst e0
    cases i with
    | zero => simp at e; subst e; exact ⟨d0, by simp, h1⟩
    | succ i => simpa using RDs.get' h2 i v (by simpa using e)
theorem RDs.drop : ∀ {ds : List D} {vs : List V} (n : Nat), RDs g S H ds vs → RDs g S H (ds.drop n) (vs.drop n)
  | ds, vs, 0, h => by simpa using h
  | [], vs, n + 1, h => by unfold RDs at h; subst h; simp; exact RDs.nil
  | d :: ds, vs, n + 1, h => by
    unfold RDs at h
    obtain ⟨v, r, e, h1, h2⟩ := h
    subst e
    simpa using RDs.drop n h2
theorem RDs.take : ∀ {ds : List D} {vs : List V} (n : Nat), RDs g S H ds vs → RDs g S H (ds.take n) (vs.take n)
  | ds, vs, 0, h => by simp; exact RDs.nil
  | [], vs, n + 1, h => by unfold RDs at h; subst h; simp; exact RDs.nil
  | d :: ds, vs, n + 1, h => by
    unfold RDs at h
    obtain ⟨v, r, e, h1, h2⟩ := h
    subst e
    simpa using RDs.cons h1 (RDs.take n h2)
theorem RDs.set : ∀ {ds : List D} {vs : List V} (n : Nat) {d : D} {v : V}, RDs g S H ds vs → RD g S H d v → RDs g S H (ds.set n d) (vs.set n v)
  | [], vs, n, _, _, h, _ => by unfold RDs at h; subst h; simp; exact RDs.nil
  | d0 :: ds, vs, n, d, v, h, k => by
    unfold RDs at h
    obtain ⟨v0, r, e, h1, h2⟩ := h
    subst e
    cases n with
    | zero => simpa using RDs.cons k h2
    | succ n => simpa using RDs.cons h1 (RDs.set n h2 k)
theorem RDs.rev : ∀ {ds : List D} {vs : List V}, RDs g S H ds vs → RDs g S H ds.reverse vs.reverse
  | [], vs, h => by unfold RDs at h; subst h; simp; exact RDs.nil
  | d :: ds, vs, h => by
    unfold RDs at h
    obtain ⟨v, r, e, h1, h2⟩ := h
    subst e
    rw [List.reverse_cons, List.reverse_cons]
    exact (RDs.rev h2).append (RDs.cons h1 RDs.nil)
theorem RDs.all {p : D → Prop} {q : V → Prop} (f : ∀ d v, RD g S H d v → p d → q v) : ∀ {ds : List D} {vs : List V}, RDs g S H ds vs → (∀ d ∈ ds, p d) → ∀ v ∈ vs, q v
  | [], vs, h, _ => by unfold RDs at h; subst h; simp
  | d :: ds, vs, h, hp => by
    unfold RDs at h
    obtain ⟨v, r, e, h1, h2⟩ := h
    subst e
    intro u hu
    rcases List.mem_cons.mp hu with rfl | hu
    · exact f d _ h1 (hp d (by simp))
    · exact RDs.all f h2 (fun d hd => hp d (by simp [hd])) u hu
/-! ### the store along a step -/
theorem RS.fresh (rs : RS g S H) {p : Addr} (hp : H p = none) : p ∉ g.B := fun hb => by
  obtain ⟨_, o, e⟩ := rs.2 p hb
  rw [hp] at e
  cases e
theorem RS.gho (rs : RS g S H) (st : Step S H S' H') : ∀ b ∈ g.B, S' b = none ∧ ∃ o, H' b = some o := fun b hb => by
  obtain ⟨k, o, e⟩ := rs.2 b hb
  obtain ⟨e', k'⟩ := st b o e k
  exact ⟨k', o, e'⟩
theorem RS.frozen (rs : RS g S H) {p : Addr} {o : HO} (hp : H p = none) : RS g S (upd H p o) ∧ Step S H S (upd H p o) := by
  have st : Step S H S (upd H p o) := fun a u h k => ⟨by rw [upd_ne (ne_of_none h hp)]; exact h, k⟩
  refine ⟨⟨fun a x hx => ⟨(rs.1 a x hx).1, ?_⟩, rs.gho st⟩, st⟩
  have q := (rs.1 a x hx).2
  cases x with
  | lst xs => obtain ⟨vs, h, r⟩ := q; exact ⟨vs, by rw [upd_ne (ne_of_none h hp)]; exact h, r.mono st⟩
  | ins C fs => obtain ⟨c, dx, gs, m, h, k, o1, r⟩ := q; exact ⟨c, dx, gs, m, by rw [upd_ne (ne_of_none h hp)]; exact h, k, by rw [upd_ne (ne_of_none o1 hp)]; exact o1, r.mono st⟩
  | dct kvs => obtain ⟨gs, h, r⟩ := q; exact ⟨gs, by rw [upd_ne (ne_of_none h hp)]; exact h, r.mono st⟩
theorem RS.free (rs : RS g S H) {p : Addr} (hp : H p = none) : S p = none := by
  cases e : S p with
  | none => rfl
  | some o =>
    have q := (rs.1 p o e).2
    cases o with
    | lst xs => obtain ⟨vs, h, _⟩ := q; rw [hp] at h; cases h
    | ins C fs => obtain ⟨c, dx, gs, _, h, _⟩ := q; rw [hp] at h; cases h
    | dct kvs => obtain ⟨gs, h, _⟩ := q; rw [hp] at h; cases h
/-- what stands at a: only its own description is asked anew -/
theorem RS.write (rs : RS g S H) {a : Addr} {o : O} {u : HO} (hs : S a ≠ none ∨ H a = none) (st : Step S H (S.set a o) (upd H a u)) (new : RO g (S.set a o) (upd H a u) a o)
    (hu : ∀ b, H a ≠ some (.own b)) : RS g (S.set a o) (upd H a u) := by
  have na : a ∉ g.B := fun hb => by
    obtain ⟨k, o', e⟩ := rs.2 a hb
    rcases hs with z | z
    · exact z k
    · rw [z] at e; cases e
  refine ⟨fun b x hx => ?_, rs.gho st⟩
  by_cases hb : b = a
  · subst hb
    rw [Sto.set_same] at hx
    cases hx
    exact ⟨na, new⟩
  · rw [Sto.set_ne hb] at hx
    refine ⟨(rs.1 b x hx).1, ?_⟩
    have q := (rs.1 b x hx).2
    cases x with
    | lst xs => obtain ⟨vs, h, r⟩ := q; exact ⟨vs, by rw [upd_ne hb]; exact h, r.mono st⟩
    | ins C fs =>
      obtain ⟨c, dx, gs, m, h, k, o1, r⟩ := q
      have nd : dx ≠ a := fun e => by subst e; exact hu _ o1
      exact ⟨c, dx, gs, m, by rw [upd_ne hb]; exact h, ⟨by rw [Sto.set_ne nd]; exact k.1, k.2⟩, by rw [upd_ne nd]; exact o1, r.mono st⟩
    | dct kvs => obtain ⟨gs, h, r⟩ := q; exact ⟨gs, by rw [upd_ne hb]; exact h, r.mono st⟩
theorem Step.write {a : Addr} {o : O} {u : HO} (hs : S a ≠ none ∨ H a = none) : Step S H (S.set a o) (upd H a u) := fun b x h k => by
  have hb : b ≠ a := by
    rintro rfl
    rcases hs with z | z
    · exact z k
    · rw [h] at z; cases z
  exact ⟨by rw [upd_ne hb]; exact h, by rw [Sto.set_ne hb]; exact k⟩
/-! ### a list that is being made -/
def Gx.busy (g : Gx) (p : Addr) : Gx := { g with B := p :: g.B }
mutual
theorem RD.busy {p : Addr} {u : HO} (hp : H p = none) : ∀ (d : D) (v : V), RD g S H d v → RD (g.busy p) S (upd H p u) d v
  | .non, v, h => by unfold RD at *; exact h
  | .bl b, v, h => by unfold RD at *; exact h
  | .int i, v, h => by unfold RD at *; exact h
  | .str s, v, h => by unfold RD at *; exact h
  | .tup xs, v, h => by
    unfold RD at *
    obtain ⟨a, vs, e, k, r⟩ := h
    refine ⟨a, vs, e, ?_, RDs.busy hp xs vs r⟩
    rcases k with ⟨k, nb, q⟩ | k
    · have ne : a ≠ p := by rcases q with q | ⟨o, q⟩ <;> exact ne_of_none q hp
      exact .inl ⟨k, fun z => (List.mem_cons.mp z).elim ne nb, by rcases q with q | ⟨o, q⟩; exact .inl (by rw [upd_ne ne]; exact q); exact .inr ⟨o, by rw [upd_ne ne]; exact q⟩⟩
    · exact .inr k
  | .lst xs, v, h => by
    unfold RD at *
    obtain ⟨a, vs, e, k, nb, q, r⟩ := h
    have ne : a ≠ p := by rcases q with q | ⟨o, q⟩ <;> exact ne_of_none q hp
    exact ⟨a, vs, e, k, fun z => (List.mem_cons.mp z).elim ne nb, by rcases q with q | ⟨o, q⟩; exact .inl (by rw [upd_ne ne]; exact q); exact .inr ⟨o, by rw [upd_ne ne]; exact q⟩, RDs.busy hp xs vs r⟩
  | .lsk xs, v, h => by
    unfold RD at *
    obtain ⟨a, vs, e, k, r⟩ := h
    refine ⟨a, vs, e, ?_, RDs.busy hp xs vs r⟩
    rcases k with ⟨k, nb, q⟩ | k
    · have ne : a ≠ p := by rcases q with q | ⟨o, q⟩ <;> exact ne_of_none q hp
      exact .inl ⟨k, fun z => (List.mem_cons.mp z).elim ne nb, by rcases q with q | ⟨o, q⟩; exact .inl (by rw [upd_ne ne]; exact q); exact .inr ⟨o, by rw [upd_ne ne]; exact q⟩⟩
    · exact .inr k
  | .obj a, v, h => by unfold RD at *; exact h
  | .ty n, v, h => by unfold RD at *; exact h
  | .gl x, v, h => by unfold RD at *; exact h
  | .ins C ns ds, v, h => by
    unfold RD at *
    obtain ⟨a, c, dx, vs, e, ⟨k, nb, q⟩, ⟨k', nb', q'⟩, m, l, r⟩ := h
    have ne : a ≠ p := ne_of_none q hp
    have ne' : dx ≠ p := ne_of_none q' hp
    exact ⟨a, c, dx, vs, e, ⟨k, fun z => (List.mem_cons.mp z).elim ne nb, by rw [upd_ne ne]; exact q⟩, ⟨k', fun z => (List.mem_cons.mp z).elim ne' nb', by rw [upd_ne ne']; exact q'⟩, m, l, RDs.busy hp ds vs r⟩
  | .dct ks ds, v, h => by
    unfold RD at *
    obtain ⟨a, qs, vs, e, ⟨k, nb, q⟩, m, l, r⟩ := h
    have ne : a ≠ p := ne_of_none q hp
    exact ⟨a, qs, vs, e, ⟨k, fun z => (List.mem_cons.mp z).elim ne nb, by rw [upd_ne ne]; exact q⟩, m, l, RDs.busy hp ds vs r⟩
theorem RDs.busy {p : Addr} {u : HO} (hp : H p = none) : ∀ (ds : List D) (vs : List V), RDs g S H ds vs → RDs (g.busy p) S (upd H p u) ds vs
  | [], vs, h => by unfold RDs at *; exact h
  | d :: ds, vs, h => by
    unfold RDs at *
    obtain ⟨v, r, e, h1, h2⟩ := h
    exact ⟨v, r, e, RD.busy hp d v h1, RDs.busy hp ds r h2⟩
end
mutual
/-- the list being made changes: nothing else sees it -/
theorem RD.turn {p : Addr} {u : HO} : ∀ (d : D) (v : V), RD (g.busy p) S H d v → RD (g.busy p) S (upd H p u) d v
  | .non, v, h => by unfold RD at *; exact h
  | .bl b, v, h => by unfold RD at *; exact h
  | .int i, v, h => by unfold RD at *; exact h
  | .str s, v, h => by unfold RD at *; exact h
  | .tup xs, v, h => by
    unfold RD at *
    obtain ⟨a, vs, e, k, r⟩ := h
    refine ⟨a, vs, e, ?_, RDs.turn xs vs r⟩
    rcases k with ⟨k, nb, q⟩ | k
    · have ne : a ≠ p := fun z => nb (by rw [z]; exact List.mem_cons_self ..)
      exact .inl ⟨k, nb, by rcases q with q | ⟨o, q⟩; exact .inl (by rw [upd_ne ne]; exact q); exact .inr ⟨o, by rw [upd_ne ne]; exact q⟩⟩
    · exact .inr k
  | .lst xs, v, h => by
    unfold RD at *
    obtain ⟨a, vs, e, k, nb, q, r⟩ := h
    have ne : a ≠ p := fun z => nb (by rw [z]; exact List.mem_cons_self ..)
    exact ⟨a, vs, e, k, nb, by rcases q with q | ⟨o, q⟩; exact .inl (by rw [upd_ne ne]; exact q); exact .inr ⟨o, by rw [upd_ne ne]; exact q⟩, RDs.turn xs vs r⟩
  | .lsk xs, v, h => by
    unfold RD at *
    obtain ⟨a, vs, e, k, r⟩ := h
    refine ⟨a, vs, e, ?_, RDs.turn xs vs r⟩
    rcases k with ⟨k, nb, q⟩ | k
    · have ne : a ≠ p := fun z => nb (by rw [z]; exact List.mem_cons_self ..)
      exact .inl ⟨k, nb, by rcases q with q | ⟨o, q⟩; exact .inl (by rw [upd_ne ne]; exact q); exact .inr ⟨o, by rw [upd_ne ne]; exact q⟩⟩
    · exact .inr k
  | .obj a, v, h => by unfold RD at *; exact h
  | .ty n, v, h => by unfold RD at *; exact h
  | .gl x, v, h => by unfold RD at *; exact h
  | .ins C ns ds, v, h => by
    unfold RD at *
    obtain ⟨a, c, dx, vs, e, ⟨k, nb, q⟩, ⟨k', nb', q'⟩, m, l, r⟩ := h
    have ne : a ≠ p := fun z => nb (by rw [z]; exact List.mem_cons_self ..)
    have ne' : dx ≠ p := fun z => nb' (by rw [z]; exact List.mem_cons_self ..)
    exact ⟨a, c, dx, vs, e, ⟨k, nb, by rw [upd_ne ne]; exact q⟩, ⟨k', nb', by rw [upd_ne ne']; exact q'⟩, m, l, RDs.turn ds vs r⟩
  | .dct ks ds, v, h => by
    unfold RD at *
    obtain ⟨a, qs, vs, e, ⟨k, nb, q⟩, m, l, r⟩ := h
    have ne : a ≠ p := fun z => nb (by rw [z]; exact List.mem_cons_self ..)
    exact ⟨a, qs, vs, e, ⟨k, nb, by rw [upd_ne ne]; exact q⟩, m, l, RDs.turn ds vs r⟩
theorem RDs.turn {p : Addr} {u : HO} : ∀ (ds : List D) (vs : List V), RDs (g.busy p) S H ds vs → RDs (g.busy p) S (upd H p u) ds vs
  | [], vs, h => by unfold RDs at *; exact h
  | d :: ds, vs, h => by
    unfold RDs at *
    obtain ⟨v, r, e, h1, h2⟩ := h
    exact ⟨v, r, e, RD.turn d v h1, RDs.turn ds r h2⟩
end
mutual
theorem RD.idle {p : Addr} : ∀ (d : D) (v : V), RD (g.busy p) S H d v → RD g S H d v
  | .non, v, h => by unfold RD at *; exact h
  | .bl b, v, h => by unfold RD at *; exact h
  | .int i, v, h => by unfold RD at *; exact h
  | .str s, v, h => by unfold RD at *; exact h
  | .tup xs, v, h => by
    unfold RD at *
    obtain ⟨a, vs, e, k, r⟩ := h
    refine ⟨a, vs, e, ?_, RDs.idle xs vs r⟩
    rcases k with ⟨k, nb, q⟩ | k
    · exact .inl ⟨k, fun z => nb (List.mem_cons_of_mem _ z), q⟩
    · exact .inr k
  | .lst xs, v, h => by
    unfold RD at *
    obtain ⟨a, vs, e, k, nb, q, r⟩ := h
    exact ⟨a, vs, e, k, fun z => nb (List.mem_cons_of_mem _ z), q, RDs.idle xs vs r⟩
  | .lsk xs, v, h => by
    unfold RD at *
    obtain ⟨a, vs, e, k, r⟩ := h
    refine ⟨a, vs, e, ?_, RDs.idle xs vs r⟩
    rcases k with ⟨k, nb, q⟩ | k
    · exact .inl ⟨k, fun z => nb (List.mem_cons_of_mem _ z), q⟩
    · exact .inr k
  | .obj a, v, h => by unfold RD at *; exact h
  | .ty n, v, h => by unfold RD at *; exact h
  | .gl x, v, h => by unfold RD at *; exact h
  | .ins C ns ds, v, h => by
    unfold RD at *
    obtain ⟨a, c, dx, vs, e, ⟨k, nb, q⟩, ⟨k', nb', q'⟩, m, l, r⟩ := h
    exact ⟨a, c, dx, vs, e, ⟨k, fun z => nb (List.mem_cons_of_mem _ z), q⟩, ⟨k', fun z => nb' (List.mem_cons_of_mem _ z), q'⟩, m, l, RDs.idle ds vs r⟩
  | .dct ks ds, v, h => by
    unfold RD at *
    obtain ⟨a, qs, vs, e, ⟨k, nb, q⟩, m, l, r⟩ := h
    exact ⟨a, qs, vs, e, ⟨k, fun z => nb (List.mem_cons_of_mem _ z), q⟩, m, l, RDs.idle ds vs r⟩
theorem RDs.idle {p : Addr} : ∀ (ds : List D) (vs : List V), RDs (g.busy p) S H ds vs → RDs g S H ds vs
  | [], vs, h => by unfold RDs at *; exact h
  | d :: ds, vs, h => by
    unfold RDs at *
    obtain ⟨v, r, e, h1, h2⟩ := h
    exact ⟨v, r, e, RD.idle d v h1, RDs.idle ds r h2⟩
end
theorem RFs.via {g' : Gx} (f : ∀ d v, RD g S H d v → RD g' S' H' d v) : ∀ {fs : List (Str × D)} {gs : List (Str × V)}, RFs g S H fs gs → RFs g' S' H' fs gs
  | [], _, h => h
  | (x, d) :: fs, _, ⟨v, r, e, h1, h2⟩ => ⟨v, r, e, f d v h1, RFs.via f h2⟩
theorem RKs.via {g' : Gx} (f : ∀ d v, RD g S H d v → RD g' S' H' d v) : ∀ {fs : List (D × D)} {gs : List (Key × V)}, RKs g S H fs gs → RKs g' S' H' fs gs
  | [], _, h => h
  | (x, d) :: fs, _, ⟨q, v, r, e, k, h1, h2⟩ => ⟨q, v, r, e, k, f d v h1, RKs.via f h2⟩
theorem RS.busy (rs : RS g S H) {p : Addr} {u : HO} (hp : H p = none) : RS (g.busy p) S (upd H p u) := by
  refine ⟨fun a x hx => ?_, fun b hb => ?_⟩
  · obtain ⟨nb, q⟩ := rs.1 a x hx
    have f := fun d v => RD.busy (g := g) (S := S) (u := u) hp d v
    cases x with
    | lst xs => obtain ⟨vs, h, r⟩ := q; exact ⟨fun z => (List.mem_cons.mp z).elim (ne_of_none h hp) nb, vs, by rw [upd_ne (ne_of_none h hp)]; exact h, RDs.busy hp xs vs r⟩
    | ins C fs => obtain ⟨c, dx, gs, m, h, k, o1, r⟩ := q; exact ⟨fun z => (List.mem_cons.mp z).elim (ne_of_none h hp) nb, c, dx, gs, m, by rw [upd_ne (ne_of_none h hp)]; exact h, ⟨k.1, fun z => (List.mem_cons.mp z).elim (ne_of_none o1 hp) k.2⟩, by rw [upd_ne (ne_of_none o1 hp)]; exact o1, r.via f⟩
    | dct kvs => obtain ⟨gs, h, r⟩ := q; exact ⟨fun z => (List.mem_cons.mp z).elim (ne_of_none h hp) nb, gs, by rw [upd_ne (ne_of_none h hp)]; exact h, r.via f⟩
  · rcases List.mem_cons.mp hb with rfl | hb
    · exact ⟨rs.free hp, _, upd_same⟩
    · obtain ⟨k, o, e⟩ := rs.2 b hb
      exact ⟨k, o, by rw [upd_ne (ne_of_none e hp)]; exact e⟩
theorem RS.turn {p : Addr} {u : HO} (hp : ∀ b, H p ≠ some (.own b)) (rs : RS (g.busy p) S H) : RS (g.busy p) S (upd H p u) := by
  refine ⟨fun a x hx => ?_, fun b hb => ?_⟩
  · obtain ⟨nb, q⟩ := rs.1 a x hx
    have ne : a ≠ p := fun z => nb (by rw [z]; exact List.mem_cons_self ..)
    have f := fun d v => RD.turn (g := g) (p := p) (S := S) (H := H) (u := u) d v
    cases x with
    | lst xs => obtain ⟨vs, h, r⟩ := q; exact ⟨nb, vs, by rw [upd_ne ne]; exact h, RDs.turn xs vs r⟩
    | ins C fs =>
      obtain ⟨c, dx, gs, m, h, k, o1, r⟩ := q
      have nd : dx ≠ p := fun z => hp _ (z ▸ o1)
      exact ⟨nb, c, dx, gs, m, by rw [upd_ne ne]; exact h, k, by rw [upd_ne nd]; exact o1, r.via f⟩
    | dct kvs => obtain ⟨gs, h, r⟩ := q; exact ⟨nb, gs, by rw [upd_ne ne]; exact h, r.via f⟩
  · obtain ⟨k, o, e⟩ := rs.2 b hb
    by_cases z : b = p
    · subst z; exact ⟨k, _, upd_same⟩
    · exact ⟨k, o, by rw [upd_ne z]; exact e⟩
theorem RS.idle {p : Addr} (rs : RS (g.busy p) S H) : RS g S H := by
  refine ⟨fun a x hx => ?_, fun b hb => rs.2 b (List.mem_cons_of_mem _ hb)⟩
  obtain ⟨nb, q⟩ := rs.1 a x hx
  have f := fun d v => RD.idle (g := g) (p := p) (S := S) (H := H) d v
  refine ⟨fun z => nb (List.mem_cons_of_mem _ z), ?_⟩
  cases x with
  | lst xs => obtain ⟨vs, h, r⟩ := q; exact ⟨vs, h, RDs.idle xs vs r⟩
  | ins C fs => obtain ⟨c, dx, gs, m, h, k, o1, r⟩ := q; exact ⟨c, dx, gs, m, h, ⟨k.1, fun z => k.2 (List.mem_cons_of_mem _ z)⟩, o1, r.via f⟩
  | dct kvs => obtain ⟨gs, h, r⟩ := q; exact ⟨gs, h, r.via f⟩
end
end G
/-! G1: a small syntax without places, and what must hold so that it runs as wished. -/
namespace G
open PySem L2
abbrev QV := D → Sto → Prop
abbrev QX := Exn → Sto → Prop
abbrev Sl := List (Option D)
abbrev FSp := List D → Sto → QV → QX → Prop
/-- a built-in kind, an own class -/
inductive Kd where
  | b (n : String) | o (C : Str)
/-- what is known of the module: its constants, its defs' and its methods' promises -/
structure Tab where
  con : Str → Option D
  fn : Str → Option FSp
  me : Str → Str → Option FSp
  flds : Str → List Str
  dfs : Str → List D → Prop
  kw : Str → Nat → List Str → Option (List (Nat ⊕ D))
def ini : Str := "__init__"
inductive Bi where
  | len | all | any | abs | max2 | min2 | int | str | tuple | list | divmod | repr
def Bi.nm : Bi → Str
  | .len => "len" | .all => "all" | .any => "any" | .abs => "abs" | .max2 => "max" | .min2 => "min" | .int => "int" | .str => "str" | .tuple => "tuple" | .list => "list" | .divmod => "divmod" | .repr => "repr"
def Bi.val : Bi → Value
  | .len => .builtin "len" | .all => .builtin "all" | .any => .builtin "any" | .abs => .builtin "abs" | .max2 => .builtin "max" | .min2 => .builtin "min"
  | .int => .type "int" | .str => .type "str" | .tuple => .type "tuple" | .list => .type "list" | .divmod => .builtin "divmod" | .repr => .builtin "repr"
inductive Me where
  | join | append | extend
def Me.nm : Me → Str
  | .join => "join" | .append => "append" | .extend => "extend"
def Me.ty : Me → String
  | .join => "str" | .append => "list" | .extend => "list"
def Me.id : Me → String
  | .join => "str.join" | .append => "list.append" | .extend => "list.extend"
mutual
inductive E where
  | loc (i : Nat) | const (d : D) | glob (x : Str)
  | bin (op : Operator) (a b : E) | neg (a : E)
  | cmp (op : CmpOp) (a b : E) | cmp2 (op op' : CmpOp) (a b c : E)
  | bool (op : BoolOp) (es : Es) | not (a : E) | ite (t a b : E)
  | call (f : Str) (es : Es) (df : List D) | callk (f : Str) (es : Es) (ks : List Str) (kes : Es) (pl : List (Nat ⊕ D))
  | make (fz : Bool) (C : Str) (es : Es) (df : List D)
  | bi (fz : Bool) (b : Bi) (es : Es) | isi (a : E) (t : Kd)
  | meth (m : Me) (o : E) (es : Es) | own (o : E) (C m : Str) (es : Es)
  | attr (o : E) (f : Str) | sub (o i : E) | sl (o : E) (lo hi : Eo)
  | tup (es : Es) | lst (fz : Bool) (es : Es)
  | lc (fz : Bool) (elt : E) (tg : Tg) (it : It) (ifs : Eo)
  | bad | sset (fz : Bool) (a : E) | repl (fz : Bool) (es : Es) (b : E) | dct (fz : Bool) (ps : Ep) | dc (fz : Bool) (k v : E) (tg : Tg) (it : It) (ifs : Eo) | rngT (es : Es)
  | rev (fz : Bool) (a : E) | ssc (fz : Bool) (elt : E) (tg : Tg) (it : It) (ifs : Eo)
inductive Es where
  | nil | cons (e : E) (r : Es)
inductive Eo where
  | no | yes (e : E)
inductive Ep where
  | nil | cons (k v : E) (r : Ep)
inductive It where
  | seq (e : E) | range (es : Es) | enum (e : E) | zip (a b : E)
inductive Tg where
  | name (i : Nat) | tup (r : Tgs)
inductive Tgs where
  | nil | cons (t : Tg) (r : Tgs)
end
def esLen : Es → Nat
  | .nil => 0
  | .cons _ r => esLen r + 1
/-! ### values -/
def lim : Nat := 1000000
/-- the items of a list or a tuple -/
def seqOf (S : Sto) : D → Option (List D)
  | .tup xs => some xs
  | .lst xs => some xs
  | .lsk xs => some xs
  | .obj a => match S a with | some (.lst xs) => some xs | _ => none
  | _ => none
/-- an instance: its class, its fields -/
def insOf (S : Sto) : D → Option (Str × List (Str × D))
  | .ins C ns vs => some (C, ns.zip vs)
  | .obj a => match S a with | some (.ins C fs) => some (C, fs) | _ => none
  | _ => none
/-- a dict: its pairs -/
def dctOf (S : Sto) : D → Option (List (D × D))
  | .dct ks vs => some (ks.zip vs)
  | .obj a => match S a with | some (.dct kvs) => some kvs | _ => none
  | _ => none
def keyB (k : D) (p : D × D) : Bool := decide (toKey p.1 = toKey k)
def getK (kvs : List (D × D)) (k : D) : Option D := (kvs.find? (keyB k)).map (·.2)
def putKD (kvs : List (D × D)) (k d : D) : List (D × D) := if kvs.any (keyB k) then kvs.map (fun p => if keyB k p = true then (p.1, d) else p) else kvs ++ [(k, d)]
def Sto.del (S : Sto) (a : Addr) : Sto := fun b => if b = a then none else S b
/-- what a for goes through -/
def itemsOf (S : Sto) : D → Option (List D)
  | .str s => some (s.map fun c => .str [c])
  | d => seqOf S d
/-- as a truth -/
def truD (S : Sto) : D → Option Bool
  | .non => some false
  | .bl b => some b
  | .int i => some (i != 0)
  | .str s => if s.length ≤ lim then some (!s.isEmpty) else none
  | d => (seqOf S d).map fun xs => !xs.isEmpty
mutual
/-- data without objects -/
def plain : D → Bool
  | .non | .bl _ | .int _ | .str _ => true
  | .tup xs | .lst xs => plains xs
  | .lsk _ | .obj _ | .ty _ | .gl _ | .ins _ _ _ | .dct _ _ => false
def plains : List D → Bool
  | [] => true
  | d :: ds => plain d && plains ds
end
mutual
def depth : D → Nat
  | .tup xs | .lst xs => depths xs + 1
  | _ => 0
def depths : List D → Nat
  | [] => 0
  | d :: ds => max (depth d) (depths ds)
end
mutual
/-- == of data -/
def beq : D → D → Bool
  | .non, .non => true
  | .bl a, .bl b => a == b
  | .bl a, .int b => (if a then 1 else 0) == b
  | .int a, .bl b => a == (if b then 1 else 0)
  | .int a, .int b => a == b
  | .str a, .str b => a == b
  | .tup a, .tup b => beqs a b
  | .lst a, .lst b => beqs a b
  | _, _ => false
def beqs : List D → List D → Bool
  | [], [] => true
  | x :: xs, y :: ys => beq x y && beqs xs ys
  | _, _ => false
end
def flat : D → Bool
  | .non | .bl _ | .int _ | .str _ => true
  | _ => false
def cut {α : Type} (xs : List α) (lo hi : Option Int) : List α := (xs.drop (HT.sIx xs.length 0 lo)).take (HT.sIx xs.length xs.length hi - HT.sIx xs.length 0 lo)
def isNon : D → Bool
  | .non => true
  | _ => false
def opS (op : Operator) (x y : D) (S : Sto) (Q : QV) : Prop :=
  match op, x, y with
  | .Add, .int a, .int b => Q (.int (a + b)) S
  | .Add, .str a, .str b => a.length + b.length ≤ lim ∧ Q (.str (a ++ b)) S
  | .Add, .lst a, .lst b => a.length + b.length ≤ lim ∧ Q (.lst (a ++ b)) S
  | .Add, .tup a, .tup b => a.length + b.length ≤ lim ∧ Q (.tup (a ++ b)) S
  | .Sub, .int a, .int b => Q (.int (a - b)) S
  | .Mult, .int a, .int b => ((-(2 ^ 64) < a ∧ a < 2 ^ 64) ∨ (-(2 ^ 64) < b ∧ b < 2 ^ 64)) ∧ Q (.int (a * b)) S
  | .FloorDiv, .int a, .int b => 0 < b ∧ b < 1073741824 ∧ Q (.int (a / b)) S
  | .Mod, .int a, .int b => 0 < b ∧ Q (.int (a % b)) S
  | .Pow, .int a, .int b => 0 ≤ b ∧ b ≤ 1000000 ∧ a.natAbs < 2 ^ 64 ∧ Q (.int (a ^ b.toNat)) S
  | .Mult, .str s, .int k => 0 ≤ k ∧ k ≤ 1000 ∧ s.length ≤ 1000 ∧ Q (.str (List.replicate k.toNat s).flatten) S
  | .Mult, .tup xs, .int k => xs ≠ [] ∧ 2 ≤ k ∧ k ≤ 1000 ∧ xs.length ≤ 1000 ∧ Q (.tup (List.replicate k.toNat xs).flatten) S
  | .LShift, .int a, .int b => 0 ≤ b ∧ b ≤ 1000000 ∧ a.natAbs < 2 ^ 64 ∧ Q (.int (a * 2 ^ b.toNat)) S
  | .BitAnd, .int a, .int b => Q (.int (Builtin.bitAnd a b)) S
  | .BitOr, .int a, .int b => Q (.int (Builtin.bitOr a b)) S
  | .BitXor, .int a, .int b => Q (.int (Builtin.bitXor a b)) S
  | _, _, _ => False
def inS (S : Sto) (x y : D) (k : Bool → Prop) : Prop :=
  match y with
  | .dct ks vs => (toKey x).isSome = true ∧ k (getK (ks.zip vs) x).isSome
  | .obj a => (match S a with
    | some (.dct kvs) => (toKey x).isSome = true ∧ k (getK kvs x).isSome
    | some (.lst xs) => flat x = true ∧ xs.all flat = true ∧ k (xs.any fun z => beq z x)
    | _ => False)
  | y => ∃ xs, seqOf S y = some xs ∧ flat x = true ∧ xs.all flat = true ∧ k (xs.any fun z => beq z x)
def cmpS (op : CmpOp) (x y : D) (S : Sto) (Q : QV) : Prop :=
  match op, x, y with
  | .Lt, .int a, .int b => Q (.bl (decide (a < b))) S
  | .LtE, .int a, .int b => Q (.bl (decide (a ≤ b))) S
  | .Gt, .int a, .int b => Q (.bl (decide (b < a))) S
  | .GtE, .int a, .int b => Q (.bl (decide (b ≤ a))) S
  | .Lt, .str a, .str b => Q (.bl (decide (a < b))) S
  | .In, .str [c], .str b => Q (.bl (decide (c ∈ b))) S
  | .NotIn, .str [c], .str b => Q (.bl (!decide (c ∈ b))) S
  | .Eq, x, y => (plain x = true ∧ plain y = true ∧ depth x ≤ 64 ∧ depth y ≤ 64) ∧ Q (.bl (beq x y)) S
  | .NotEq, x, y => (plain x = true ∧ plain y = true ∧ depth x ≤ 64 ∧ depth y ≤ 64) ∧ Q (.bl (!beq x y)) S
  | .In, x, y => inS S x y fun b => Q (.bl b) S
  | .NotIn, x, y => inS S x y fun b => Q (.bl (!b)) S
  | .Is, x, .non => Q (.bl (isNon x)) S
  | .IsNot, x, .non => Q (.bl (!isNon x)) S
  | .Is, .bl a, .bl b => Q (.bl (a == b)) S
  | .IsNot, .bl a, .bl b => Q (.bl (a != b)) S
  | _, _, _ => False
def subS (x i : D) (S : Sto) (Q : QV) : Prop :=
  match x, i with
  | .str s, .int k => s.length ≤ lim ∧ ∃ c, atI s k = some c ∧ Q (.str [c]) S
  | .dct ks vs, i => ∃ d, (toKey i).isSome = true ∧ getK (ks.zip vs) i = some d ∧ Q d S
  | .obj a, i => (match S a with
    | some (.lst xs) => ∃ k d, i = .int k ∧ atI xs k = some d ∧ Q d S
    | some (.dct kvs) => ∃ d, (toKey i).isSome = true ∧ getK kvs i = some d ∧ Q d S
    | _ => False)
  | x, .int k => ∃ xs d, seqOf S x = some xs ∧ atI xs k = some d ∧ Q d S
  | _, _ => False
/-- something is put in its place -/
def putS (S : Sto) (x i d : D) (k : Sto → Prop) : Prop :=
  match x with
  | .obj a => (match S a with
    | some (.lst xs) => ∃ n j, i = .int n ∧ ixN xs.length n = some j ∧ k (S.set a (.lst (xs.set j d)))
    | some (.dct kvs) => (toKey i).isSome = true ∧ kvs.length < lim ∧ k (S.set a (.dct (putKD kvs i d)))
    | _ => False)
  | _ => False
def slS (x : D) (lo hi : Option Int) (S : Sto) (Q : QV) : Prop :=
  match x with
  | .str s => s.length ≤ lim ∧ Q (.str (cut s lo hi)) S
  | .tup xs => Q (.tup (cut xs lo hi)) S
  | x => ∃ xs, seqOf S x = some xs ∧ Q (.lst (cut xs lo hi)) S
/-- a new list: it stays as it is, or it may change -/
def newL (fz : Bool) (xs : List D) (S : Sto) (Q : QV) : Prop :=
  if fz = true then Q (.lst xs) S else ∀ a, S a = none → Q (.obj a) (S.set a (.lst xs))
mutual
def toPy : D → PyData
  | .non => .none
  | .bl b => .bool b
  | .int i => .int i
  | .str s => .str (mkS s)
  | .tup xs => .tuple (toPys xs)
  | .lst xs => .list (toPys xs)
  | .lsk _ | .obj _ | .ty _ | .gl _ | .ins _ _ _ | .dct _ _ => .none
def toPys : List D → List PyData
  | [] => []
  | d :: ds => toPy d :: toPys ds
end
def isC : D → Bool
  | .tup _ | .lst _ => true
  | _ => false
/-- how a thing is shown -/
def reprD (d : D) : List Nat := (toPy d).shown.cps.toList
def digits (n : Int) : List Nat := (toString n).toList.map (·.toNat)
def biS (fz : Bool) (b : Bi) (ds : List D) (S : Sto) (Q : QV) : Prop :=
  match b, ds with
  | .len, [.str s] => s.length ≤ lim ∧ Q (.int s.length) S
  | .len, [d] => ∃ xs, seqOf S d = some xs ∧ Q (.int xs.length) S
  | .all, [.lst ds] => ∃ bs : List Bool, ds = bs.map D.bl ∧ Q (.bl (bs.all id)) S
  | .any, [.lst ds] => ∃ bs : List Bool, ds = bs.map D.bl ∧ Q (.bl (bs.any id)) S
  | .abs, [.int i] => Q (.int (if i < 0 then -i else i)) S
  | .max2, [.int i, .int j] => Q (.int (if j > i then j else i)) S
  | .min2, [.int i, .int j] => Q (.int (if j < i then j else i)) S
  | .int, [.int i] => Q (.int i) S
  | .int, [.bl b] => Q (.int (if b then 1 else 0)) S
  | .str, [.int i] => i.natAbs < 10 ^ 9 ∧ Q (.str (digits i)) S
  | .tuple, [.str s] => s.length ≤ lim ∧ Q (.tup (s.map fun c => .str [c])) S
  | .tuple, [d] => ∃ xs, seqOf S d = some xs ∧ Q (.tup xs) S
  | .list, [.str s] => s.length ≤ lim ∧ newL fz (s.map fun c => .str [c]) S Q
  | .list, [d] => ∃ xs, seqOf S d = some xs ∧ newL fz xs S Q
  | .repr, [d] => (isC d = true ∧ plain d = true ∧ depth d ≤ 64 ∧ (toPy d).showable = true ∧ (reprD d).length ≤ lim) ∧ Q (.str (reprD d)) S
  | .divmod, [.int i, .int j] => 0 < j ∧ j < 1073741824 ∧ Q (.tup [.int (i / j), .int (i % j)]) S
  | _, _ => False
/-- glued with a text between -/
def jn (sep : List Nat) : List (List Nat) → List Nat
  | [] => []
  | [p] => p
  | p :: q :: r => p ++ (sep ++ jn sep (q :: r))
/-- what a method is asked of -/
def meT (m : Me) (o : D) (S : Sto) : Prop :=
  match m, o with
  | .join, .str _ => True
  | .append, .obj a => ∃ xs, S a = some (.lst xs)
  | .extend, .obj a => ∃ xs, S a = some (.lst xs)
  | _, _ => False
def meS (m : Me) (o : D) (ds : List D) (S : Sto) (Q : QV) : Prop :=
  match m, o, ds with
  | .join, .str sep, [d] => ∃ (xs : List D) (ss : List (List Nat)), seqOf S d = some xs ∧ xs = ss.map D.str ∧ (ss.map List.length).sum + ss.length * sep.length ≤ lim ∧ Q (.str (jn sep ss)) S
  | .append, .obj a, [d] => ∃ xs, S a = some (.lst xs) ∧ xs.length < lim ∧ Q .non (S.set a (.lst (xs ++ [d])))
  | .extend, .obj a, [d] => ∃ xs ys, S a = some (.lst xs) ∧ seqOf S d = some ys ∧ xs.length + ys.length ≤ lim ∧ Q .non (S.set a (.lst (xs ++ ys)))
  | _, _, _ => False
/-- sorted(set(x)) of texts -/
def ssetS (fz : Bool) (x : D) (S : Sto) (Q : QV) : Prop := (∃ zs : List (List Nat), itemsOf S x = some (zs.map D.str) ∧ zs.length < 4000 ∧ newL fz ((sortU zs).map D.str) S Q) ∨ ∃ is : List Int, seqOf S x = some (is.map .int) ∧ is.length < 64 ∧ newL fz ((sortI is).map .int) S Q
/-- a row turned about -/
def revS (fz : Bool) (x : D) (S : Sto) (Q : QV) : Prop :=
  match x with
  | .tup xs => Q (.tup xs.reverse) S
  | x => ∃ xs, seqOf S x = some xs ∧ newL fz xs.reverse S Q
/-- sorted({..}) of ints -/
def sscS (fz : Bool) (ys : List D) (S : Sto) (Q : QV) : Prop := ∃ is : List Int, ys = is.map .int ∧ is.length < 64 ∧ newL fz ((sortI is).map .int) S Q
/-- a row again and again -/
def replS (fz : Bool) (ds : List D) (y : D) (S : Sto) (Q : QV) : Prop := ∃ k : Int, y = .int k ∧ -(2 ^ 63) ≤ k ∧ k < 2 ^ 63 ∧ ds.length * k.toNat ≤ lim ∧ newL fz (List.replicate k.toNat ds).flatten S Q
/-- the values of a call with names, in the def's turn -/
def pick (pl : List (Nat ⊕ D)) (ds : List D) : List D := pl.map fun q => match q with | .inl j => ds.getD j .non | .inr d => d
/-- the kind of a thing -/
def kindOf (S : Sto) : D → Option Kd
  | .non => some (.b "NoneType")
  | .bl _ => some (.b "bool")
  | .int _ => some (.b "int")
  | .str _ => some (.b "str")
  | .tup _ => some (.b "tuple")
  | .lst _ => some (.b "list")
  | .obj a => match S a with | some (.lst _) => some (.b "list") | some (.dct _) => some (.b "dict") | some (.ins C _) => some (.o C) | none => none
  | .ins C _ _ => some (.o C)
  | .dct _ _ => some (.b "dict")
  | _ => none
def isiB : Kd → Kd → Bool
  | .b k, .b t => k == t || (k == "bool" && t == "int")
  | .o k, .o t => k == t
  | _, _ => false
def kdN : List String := ["NoneType", "bool", "int", "str", "tuple", "list", "dict"]
def biTys : List String := ["int", "str", "bool", "tuple", "list", "dict"]
/-- the classes whose things are asked for their kind -/
def clN : List Str := ["Board", "Wall", "Desk"]
def kOk : Kd → Bool
  | .b n => kdN.contains n
  | .o C => clN.contains C
def tOk : Kd → Bool
  | .b n => biTys.contains n
  | .o C => clN.contains C
def tyOk (T : Tab) : Kd → Prop
  | .b _ => True
  | .o C => (∃ f, f ∈ T.flds C) ∧ clN.contains C = true
def rngS (ds : List D) (S : Sto) (Q : List D → (Sto → Prop) → Sto → Prop) : Prop := match ds with
  | [.int n] => (-(2 ^ 62) ≤ n ∧ n < 2 ^ 62) ∧ Q ((List.range n.toNat).map fun (k : Nat) => .int (0 + k)) (fun _ => True) S
  | [.int a, .int b] => (-(2 ^ 62) ≤ a ∧ a < 2 ^ 62 ∧ -(2 ^ 62) ≤ b ∧ b < 2 ^ 62) ∧ Q ((List.range (b - a).toNat).map fun (k : Nat) => .int (a + k)) (fun _ => True) S
  | [.int a, .int b, .int c] => ∃ n, RgC a b c n ∧ Q ((List.range n).map fun (k : Nat) => .int (a + k * c)) (fun _ => True) S
  | _ => False
/-- what was made stays as it is from here on -/
def frz (fz : Bool) (a : Addr) (C : Str) (S : Sto) (Q : QV) : Prop := if fz = true then ∃ fs, S a = some (.ins C fs) ∧ Q (.ins C (fs.map (·.1)) (fs.map (·.2))) (S.del a) else Q (.obj a) S
def newDc (fz : Bool) (a : Addr) (kvs : List (D × D)) (S : Sto) (Q : QV) : Prop := if fz = true then Q (.dct (kvs.map (·.1)) (kvs.map (·.2))) (S.del a) else Q (.obj a) (S.set a (.dct kvs))
/-! ### the wishes -/
/-- a value's wish and a test's -/
structure WP where
  v : Sl → Sto → QV → Prop
  t : Sl → Sto → (Bool → Sto → Prop) → Prop
def mkV (v : Sl → Sto → QV → Prop) : WP := ⟨v, fun ρ S Q => v ρ S fun d S1 => ∃ b, truD S1 d = some b ∧ Q b S1⟩
mutual
/-- a target takes a value -/
def wG : Tg → D → Sl → (Sl → Prop) → Prop
  | .name i, d, ρ, Q => Q (ρ.set i (some d))
  | .tup r, d, ρ, Q => match d with | .tup xs => wGs r xs ρ Q | _ => False
def wGs : Tgs → List D → Sl → (Sl → Prop) → Prop
  | .nil, ds, ρ, Q => ds = [] ∧ Q ρ
  | .cons t r, ds, ρ, Q => match ds with | d :: ds => wG t d ρ fun ρ1 => wGs r ds ρ1 Q | [] => False
end
/-- a list is made, item by item -/
def wLc (set : D → Sl → (Sl → Prop) → Prop) (test : Sl → Sto → (Bool → Sto → Prop) → Prop) (elt : Sl → Sto → QV → Prop) (same : Sto → Prop) (ρ : Sl) : List D → List D → Sto → (List D → Sto → Prop) → Prop
  | [], acc, S, Q => same S ∧ Q acc S
  | d :: ds, acc, S, Q => same S ∧ set d ρ fun ρ1 => test ρ1 S fun b S1 =>
      if b = true then elt ρ1 S1 fun y S2 => acc.length < lim ∧ wLc set test elt same ρ ds (acc ++ [y]) S2 Q else wLc set test elt same ρ ds acc S1 Q
/-- a dict is made, pair by pair -/
def wDc (set : D → Sl → (Sl → Prop) → Prop) (test : Sl → Sto → (Bool → Sto → Prop) → Prop) (kx vx : Sl → Sto → QV → Prop) (same : Sto → Prop) (ρ : Sl) : List D → List (D × D) → Sto → (List (D × D) → Sto → Prop) → Prop
  | [], acc, S, Q => same S ∧ Q acc S
  | d :: ds, acc, S, Q => same S ∧ set d ρ fun ρ1 => test ρ1 S fun b S1 =>
      if b = true then kx ρ1 S1 fun x S2 => vx ρ1 S2 fun y S3 => (toKey x).isSome = true ∧ acc.length < lim ∧ wDc set test kx vx same ρ ds (putKD acc x y) S3 Q else wDc set test kx vx same ρ ds acc S1 Q
/-- what is gone through must stand still -/
def still (d : D) (S0 : Sto) (S : Sto) : Prop := match d with | .obj a => S a = S0 a | _ => True
mutual
def tgSlots : Tg → List Nat
  | .name i => [i]
  | .tup r => tgsSlots r
def tgsSlots : Tgs → List Nat
  | .nil => []
  | .cons t r => tgSlots t ++ tgsSlots r
end
def wipeD (ρ : Sl) : List Nat → Sl
  | [] => ρ
  | v :: vs => (wipeD ρ vs).set v none
section
variable (T : Tab)
mutual
def wX : E → QX → WP
  | .loc i, ex => mkV fun ρ S Q => ∃ d, ρ[i]? = some (some d) ∧ Q d S
  | .const d, ex => mkV fun _ S Q => Q d S
  | .glob x, ex => mkV fun _ S Q => ∃ d, T.con x = some d ∧ Q d S
  | .bin op a b, ex => mkV fun ρ S Q => (wX a ex).v ρ S fun x S1 => (wX b ex).v ρ S1 fun y S2 => opS op x y S2 Q
  | .neg a, ex => mkV fun ρ S Q => (wX a ex).v ρ S fun x S1 => match x with | .int i => Q (.int (-i)) S1 | _ => False
  | .cmp op a b, ex => mkV fun ρ S Q => (wX a ex).v ρ S fun x S1 => (wX b ex).v ρ S1 fun y S2 => cmpS op x y S2 Q
  | .cmp2 op op' a b c, ex => mkV fun ρ S Q => (wX a ex).v ρ S fun x S1 => (wX b ex).v ρ S1 fun y S2 => cmpS op x y S2 fun z S3 => ∃ k, z = .bl k ∧ if k = true then (wX c ex).v ρ S3 fun u S4 => cmpS op' y u S4 Q else Q (.bl false) S3
  | .bool op es, ex => wB op es ex
  | .not a, ex => ⟨fun ρ S Q => (wX a ex).v ρ S fun d S1 => ∃ b, truD S1 d = some b ∧ Q (.bl (!b)) S1, fun ρ S Q => (wX a ex).t ρ S fun b S1 => Q (!b) S1⟩
  | .ite t a b, ex => ⟨fun ρ S Q => (wX t ex).t ρ S fun k S1 => if k = true then (wX a ex).v ρ S1 Q else (wX b ex).v ρ S1 Q, fun _ _ _ => False⟩
  | .call f es df, ex => mkV fun ρ S Q => T.dfs f df ∧ ∃ φ, T.fn f = some φ ∧ wEs es ex ρ S fun ds S1 => φ (ds ++ df) S1 Q ex
  | .callk f es ks kes pl, ex => mkV fun ρ S Q => ∃ φ, T.fn f = some φ ∧ T.kw f (esLen es) ks = some pl ∧ wEs es ex ρ S fun ds S1 => wEs kes ex ρ S1 fun us S2 => ds.length = esLen es ∧ us.length = ks.length ∧ φ (pick pl (ds ++ us)) S2 Q ex
  | .make fz C es df, ex => mkV fun ρ S Q => T.dfs C df ∧ ∃ φ, T.me C ini = some φ ∧ wEs es ex ρ S fun ds S1 => ∀ a, S1 a = none → φ (.obj a :: (ds ++ df)) (S1.set a (.ins C [])) (fun d S2 => d = .non ∧ frz fz a C S2 Q) ex
  | .bi fz b es, ex => mkV fun ρ S Q => wEs es ex ρ S fun ds S1 => biS fz b ds S1 Q
  | .isi a t, ex => mkV fun ρ S Q => tyOk T t ∧ (wX a ex).v ρ S fun x S1 => ∃ k, kindOf S1 x = some k ∧ kOk k = true ∧ Q (.bl (isiB k t)) S1
  | .meth m o es, ex => mkV fun ρ S Q => (wX o ex).v ρ S fun x S1 => meT m x S1 ∧ wEs es ex ρ S1 fun ds S2 => meS m x ds S2 Q
  | .own o C m es, ex => mkV fun ρ S Q => ∃ φ, T.me C m = some φ ∧ (wX o ex).v ρ S fun x S1 => ∃ fs, insOf S1 x = some (C, fs) ∧ fs.lookup m = none ∧ wEs es ex ρ S1 fun ds S2 => φ (x :: ds) S2 Q ex
  | .attr o f, ex => mkV fun ρ S Q => (wX o ex).v ρ S fun x S1 => ∃ C fs d, insOf S1 x = some (C, fs) ∧ f ∈ T.flds C ∧ fs.lookup f = some d ∧ Q d S1
  | .sub o i, ex => mkV fun ρ S Q => (wX o ex).v ρ S fun x S1 => (wX i ex).v ρ S1 fun y S2 => subS x y S2 Q
  | .sl o lo hi, ex => mkV fun ρ S Q => (wX o ex).v ρ S fun x S1 => wO lo ex ρ S1 fun l S2 => wO hi ex ρ S2 fun h S3 => slS x l h S3 Q
  | .tup es, ex => mkV fun ρ S Q => wEs es ex ρ S fun ds S1 => ds.length ≤ lim ∧ Q (.tup ds) S1
  | .lst fz es, ex => mkV fun ρ S Q => wEs es ex ρ S fun ds S1 => ds.length ≤ lim ∧ newL fz ds S1 Q
  | .lc fz elt tg it ifs, ex => mkV fun ρ S Q => wI it ex ρ S fun ds same S1 =>
      wLc (wG tg) (wTo ifs fun _ _ => False) (fun ρ S Q => (wX elt fun _ _ => False).v ρ S Q) same (wipeD ρ (tgSlots tg)) ds [] S1 fun ys S2 => newL fz ys S2 Q
  | .bad, ex => ⟨fun _ _ _ => False, fun _ _ _ => False⟩
  | .sset fz a, ex => mkV fun ρ S Q => (wX a ex).v ρ S fun x S1 => ssetS fz x S1 Q
  | .repl fz es b, ex => mkV fun ρ S Q => wEs es ex ρ S fun ds S1 => ds.length ≤ lim ∧ (wX b ex).v ρ S1 fun y S2 => replS fz ds y S2 Q
  | .dct fz ps, ex => mkV fun ρ S Q => ∀ a, S a = none → wPs ps ex ρ (S.set a (.dct [])) fun kvs S1 => S1 a = some (.dct []) ∧ kvs.length ≤ 15 ∧ (kvs.map (·.1)).all (fun d => (toKey d).isSome) = true ∧ (kvs.map fun p => toKey p.1).Nodup ∧ newDc fz a kvs S1 Q
  | .dc fz kx vx tg it ifs, ex => mkV fun ρ S Q => wI it ex ρ S fun ds same S1 =>
      wDc (wG tg) (wTo ifs fun _ _ => False) (fun ρ S Q => (wX kx fun _ _ => False).v ρ S Q) (fun ρ S Q => (wX vx fun _ _ => False).v ρ S Q) same (wipeD ρ (tgSlots tg)) ds [] S1 fun kvs S2 => ∀ a, S2 a = none → newDc fz a kvs S2 Q
  | .rngT es, ex => mkV fun ρ S Q => wEs es ex ρ S fun ds S1 => rngS ds S1 fun xs _ S2 => xs.length ≤ lim ∧ Q (.tup xs) S2
  | .rev fz a, ex => mkV fun ρ S Q => (wX a ex).v ρ S fun x S1 => revS fz x S1 Q
  | .ssc fz elt tg it ifs, ex => mkV fun ρ S Q => wI it ex ρ S fun ds same S1 => ds.length ≤ 1000 ∧
      wLc (wG tg) (wTo ifs fun _ _ => False) (fun ρ S Q => (wX elt fun _ _ => False).v ρ S fun y S2 => (∃ i : Int, y = .int i) ∧ Q y S2) same (wipeD ρ (tgSlots tg)) ds [] S1 fun ys S2 => sscS fz ys S2 Q
/-- the pairs of a dict's display -/
def wPs : Ep → QX → Sl → Sto → (List (D × D) → Sto → Prop) → Prop
  | .nil, _, _, S, Q => Q [] S
  | .cons k v r, ex, ρ, S, Q => (wX k ex).v ρ S fun x S1 => (wX v ex).v ρ S1 fun y S2 => wPs r ex ρ S2 fun ps S3 => Q ((x, y) :: ps) S3
def wB : BoolOp → Es → QX → WP
  | op, .nil, ex => ⟨fun _ _ _ => False, fun _ S Q => Q (match op with | .And => true | .Or => false) S⟩
  | op, .cons a r, ex => ⟨fun ρ S Q => (wX a ex).v ρ S fun x S1 => match r with
      | .nil => Q x S1
      | .cons _ _ => ∃ k, truD S1 x = some k ∧ (match op, k with
        | .And, false => Q x S1
        | .Or, true => Q x S1
        | _, _ => (wB op r ex).v ρ S1 Q),
    fun ρ S Q => (wX a ex).t ρ S fun k S1 => match op, k with
      | .And, false => Q false S1
      | .Or, true => Q true S1
      | _, _ => (wB op r ex).t ρ S1 Q⟩
def wEs : Es → QX → Sl → Sto → (List D → Sto → Prop) → Prop
  | .nil, _, _, S, Q => Q [] S
  | .cons e r, ex, ρ, S, Q => (wX e ex).v ρ S fun d S1 => wEs r ex ρ S1 fun ds S2 => Q (d :: ds) S2
def wO : Eo → QX → Sl → Sto → (Option Int → Sto → Prop) → Prop
  | .no, _, _, S, Q => Q none S
  | .yes e, ex, ρ, S, Q => (wX e ex).v ρ S fun d S1 => match d with | .int i => Q (some i) S1 | _ => False
def wTo : Eo → QX → Sl → Sto → (Bool → Sto → Prop) → Prop
  | .no, _, _, S, Q => Q true S
  | .yes e, ex, ρ, S, Q => (wX e ex).t ρ S Q
def wI : It → QX → Sl → Sto → (List D → (Sto → Prop) → Sto → Prop) → Prop
  | .seq e, ex, ρ, S, Q => (wX e ex).v ρ S fun d S1 => ∃ ds, itemsOf S1 d = some ds ∧ Q ds (still d S1) S1
  | .range es, ex, ρ, S, Q => wEs es ex ρ S fun ds S1 => rngS ds S1 Q
  | .enum e, ex, ρ, S, Q => (wX e ex).v ρ S fun d S1 => ∃ ds, itemsOf S1 d = some ds ∧ Q (ds.zipIdx.map fun p => .tup [.int p.2, p.1]) (still d S1) S1
  | .zip a b, ex, ρ, S, Q => (wX a ex).v ρ S fun x S1 => (wX b ex).v ρ S1 fun y S2 => ∃ xs ys, itemsOf S2 x = some xs ∧ itemsOf S2 y = some ys ∧ Q ((xs.zip ys).map fun p => .tup [p.1, p.2]) (fun S => still x S2 S ∧ still y S2 S) S2
end
/-! ### statements -/
structure Nd where
  nx : Sl → Sto → Prop
  rt : QV
  bk : Sl → Sto → Prop
  ct : Sl → Sto → Prop
end
mutual
/-- a place to store in -/
inductive Lh where
  | name (i : Nat) | tup (r : Lhs) | attr (o : E) (f : Str) | sub (o i : E)
inductive Lhs where
  | nil | cons (t : Lh) (r : Lhs)
end
mutual
inductive St where
  | expr (e : E) | ret (e : E) | retN | pass | brk | cont
  | asg (t : Lh) (e : E)
  | par (i j : Nat) (a b : E)
  | ife (t : E) (a b : Ss)
  | for (t : Tg) (it : It) (b : Ss)
  | raise (C : Str) (es : Es) | bad | whl (t : E) (b : Ss)
inductive Ss where
  | nil | cons (s : St) (r : Ss)
end
def lhsLen : Lhs → Nat
  | .nil => 0
  | .cons _ r => lhsLen r + 1
def putD (f : Str) (d : D) : List (Str × D) → List (Str × D)
  | [] => [(f, d)]
  | (x, y) :: r => if x = f then (x, d) :: r else (x, y) :: putD f d r
section
variable (T : Tab) (ex : QX)
mutual
def wL : Lh → D → Sl → Sto → (Sl → Sto → Prop) → Prop
  | .name i, d, ρ, S, Q => Q (ρ.set i (some d)) S
  | .tup r, d, ρ, S, Q => ∃ xs, seqOf S d = some xs ∧ xs.length = lhsLen r ∧ wLs r xs ρ S Q
  | .attr o f, d, ρ, S, Q => (wX T o ex).v ρ S fun x S1 => ∃ a C fs, x = .obj a ∧ S1 a = some (.ins C fs) ∧ f ∈ T.flds C ∧ fs.length < 900 ∧ Q ρ (S1.set a (.ins C (putD f d fs)))
  | .sub o i, d, ρ, S, Q => (wX T o ex).v ρ S fun x S1 => (wX T i ex).v ρ S1 fun y S2 => putS S2 x y d fun S3 => Q ρ S3
def wLs : Lhs → List D → Sl → Sto → (Sl → Sto → Prop) → Prop
  | .nil, ds, ρ, S, Q => ds = [] ∧ Q ρ S
  | .cons t r, ds, ρ, S, Q => match ds with | d :: ds => wL t d ρ S fun ρ1 S1 => wLs r ds ρ1 S1 Q | [] => False
end
def wFor (set : D → Sl → (Sl → Prop) → Prop) (body : Sl → Sto → Nd → Prop) (same : Sto → Prop) (N : Nd) : List D → Sl → Sto → Prop
  | [], ρ, S => same S ∧ N.nx ρ S
  | d :: ds, ρ, S => same S ∧ set d ρ fun ρ1 => body ρ1 S { nx := fun ρ2 S2 => wFor set body same N ds ρ2 S2, rt := N.rt, bk := N.nx, ct := fun ρ2 S2 => wFor set body same N ds ρ2 S2 }
mutual
def wS : St → Sl → Sto → Nd → Prop
  | .expr e, ρ, S, N => (wX T e ex).v ρ S fun _ S1 => N.nx ρ S1
  | .ret e, ρ, S, N => (wX T e ex).v ρ S N.rt
  | .retN, _, S, N => N.rt .non S
  | .pass, ρ, S, N => N.nx ρ S
  | .brk, ρ, S, N => N.bk ρ S
  | .cont, ρ, S, N => N.ct ρ S
  | .asg t e, ρ, S, N => (wX T e ex).v ρ S fun d S1 => wL T ex t d ρ S1 N.nx
  | .par i j a b, ρ, S, N => (wX T a ex).v ρ S fun x S1 => (wX T b ex).v ρ S1 fun y S2 => N.nx ((ρ.set i (some x)).set j (some y)) S2
  | .ife t a b, ρ, S, N => (wX T t ex).t ρ S fun k S1 => if k = true then wSs a ρ S1 N else wSs b ρ S1 N
  | .for t it b, ρ, S, N => wI T it ex ρ S fun ds same S1 => wFor (wG t) (fun ρ S N => wSs b ρ S N) same N ds ρ S1
  | .raise C es, ρ, S, N => False
  | .bad, _, _, _ => False
  | .whl t b, ρ, S, N => ∃ W : Nat → Sl → Sto → Prop, (∃ m, W m ρ S) ∧ ∀ m ρ S, W m ρ S → (wX T t ex).t ρ S fun k S1 =>
      if k = true then wSs b ρ S1 { N with nx := fun ρ' S' => ∃ m', m' < m ∧ W m' ρ' S', ct := fun ρ' S' => ∃ m', m' < m ∧ W m' ρ' S', bk := N.nx } else N.nx ρ S1
def wSs : Ss → Sl → Sto → Nd → Prop
  | .nil, ρ, S, N => N.nx ρ S
  | .cons s r, ρ, S, N => wS s ρ S { N with nx := fun ρ1 S1 => wSs r ρ1 S1 N }
end
/-- fewer objects are told of -/
def Sub (S' S : Sto) : Prop := ∀ a o, S' a = some o → S a = some o
/-- a def: n names in all, its body -/
def wFn (n : Nat) (b : Ss) : FSp := fun ds S Q ex => wSs T ex b (ds.map some ++ List.replicate (n - ds.length) none) S
  { nx := fun _ S1 => ∃ S2, Sub S2 S1 ∧ Q .non S2, rt := fun d S1 => ∃ S2, Sub S2 S1 ∧ Q d S2, bk := fun _ _ => False, ct := fun _ _ => False }
end
end G
/-! G2: the wishes as readings of the hand layer; operators. -/
namespace G
open PySem L2
section
variable (g : Gx)
/-- what is wanted of a value and a heap, by data and store -/
def Cont (S : Sto) (H : Hp) (Qd : QV) (Q : VK) : Prop := ∀ v d S' H', RD g S' H' d v → RS g S' H' → Step S H S' H' → Qd d S' → Q v H'
def ContB (S : Sto) (H : Hp) (Qd : Bool → Sto → Prop) (Q : Bool → Hp → Prop) : Prop := ∀ b S' H', RS g S' H' → Step S H S' H' → Qd b S' → Q b H'
def ContA (S : Sto) (H : Hp) (Qd : List D → Sto → Prop) (Q : List V → Hp → Prop) : Prop := ∀ vs ds S' H', RDs g S' H' ds vs → RS g S' H' → Step S H S' H' → Qd ds S' → Q vs H'
def ContX (S : Sto) (H : Hp) (Xd : QX) (E : XK) : Prop := ∀ e c dd S' H', RX g S' H' e c dd → RS g S' H' → Step S H S' H' → Xd e S' → E c dd H'
def EX (ex : QX) (S0 : Sto) (H0 : Hp) : XK := fun c dd H' => ∃ e S', RX g S' H' e c dd ∧ RS g S' H' ∧ Step S0 H0 S' H' ∧ ex e S'
/-- slots, store, heap -/
structure Rl (S0 : Sto) (H0 : Hp) (ρ : Sl) (S : Sto) (σ : L2.St) (H : Hp) : Prop where
  len : ρ.length = σ.length
  sl : ∀ (i : Nat) (d : D), ρ[i]? = some (some d) → ∃ v, σ[i]? = some (some v) ∧ RD g S H d v
  rs : RS g S H
  st : Step S0 H0 S H
def RE (S0 : Sto) (H0 : Hp) (w : Sl → Sto → QV → Prop) : TE := fun σ H Q => ∃ ρ S Qd, Rl g S0 H0 ρ S σ H ∧ w ρ S Qd ∧ Cont g S H Qd Q
def RT (S0 : Sto) (H0 : Hp) (w : Sl → Sto → (Bool → Sto → Prop) → Prop) : TT := fun σ H Q => ∃ ρ S Qd, Rl g S0 H0 ρ S σ H ∧ w ρ S Qd ∧ ContB g S H Qd Q
def RA (S0 : Sto) (H0 : Hp) (w : Sl → Sto → (List D → Sto → Prop) → Prop) : TA := fun σ H Q => ∃ ρ S Qd, Rl g S0 H0 ρ S σ H ∧ w ρ S Qd ∧ ContA g S H Qd Q
/-- a two-place operation, by data -/
def R2d (o : D → D → Sto → QV → Prop) : R2 := fun x y H Q => ∃ d1 d2 S Qd, RD g S H d1 x ∧ RD g S H d2 y ∧ RS g S H ∧ o d1 d2 S Qd ∧ Cont g S H Qd Q
def RCd (o : List D → Sto → QV → Prop) : List V → Hp → VK → Prop := fun vs H Q => ∃ ds S Qd, RDs g S H ds vs ∧ RS g S H ∧ o ds S Qd ∧ Cont g S H Qd Q
end
section
variable {g : Gx} {S S0 S1 S' : Sto} {H H0 H1 H' : Hp} {ρ : Sl} {σ : L2.St}
theorem Rl.step (r : Rl g S0 H0 ρ S σ H) (rs : RS g S' H') (st : Step S H S' H') : Rl g S0 H0 ρ S' σ H' :=
  ⟨r.len, fun i d e => let ⟨v, h1, h2⟩ := r.sl i d e; ⟨v, h1, h2.mono st⟩, rs, r.st.trans st⟩
theorem Cont.from {Qd : QV} {Q : VK} (k : Cont g S H Qd Q) (st : Step S H S1 H1) : Cont g S1 H1 Qd Q := fun v d S' H' rd rs s q => k v d S' H' rd rs (st.trans s) q
theorem ContB.from {Qd : Bool → Sto → Prop} {Q : Bool → Hp → Prop} (k : ContB g S H Qd Q) (st : Step S H S1 H1) : ContB g S1 H1 Qd Q := fun b S' H' rs s q => k b S' H' rs (st.trans s) q
theorem ContA.from {Qd : List D → Sto → Prop} {Q : List V → Hp → Prop} (k : ContA g S H Qd Q) (st : Step S H S1 H1) : ContA g S1 H1 Qd Q := fun v d S' H' rd rs s q => k v d S' H' rd rs (st.trans s) q
theorem Cont.here {Qd : QV} {Q : VK} {d : D} {v : V} (k : Cont g S H Qd Q) (rs : RS g S H) (rd : RD g S H d v) (q : Qd d S) : Q v H := k v d S H rd rs (Step.refl S H) q
theorem RD.newT {ds : List D} {vs : List V} {p : Addr} (rs : RS g S H) (r : RDs g S H ds vs) (hp : H p = none) : RD g S (upd H p (.tup vs)) (.tup ds) (.ref p) := by
  unfold RD
  exact ⟨p, vs, rfl, .inl ⟨rs.free hp, rs.fresh hp, .inl upd_same⟩, r.mono (rs.frozen hp).2⟩
theorem RD.newF {ds : List D} {vs : List V} {p : Addr} (rs : RS g S H) (r : RDs g S H ds vs) (hp : H p = none) : RD g S (upd H p (.lst vs)) (.lst ds) (.ref p) := by
  unfold RD
  exact ⟨p, vs, rfl, rs.free hp, rs.fresh hp, .inl upd_same, r.mono (rs.frozen hp).2⟩
theorem Cont.newT {Qd : QV} {Q : VK} {ds : List D} {vs : List V} (k : Cont g S H Qd Q) (rs : RS g S H) (r : RDs g S H ds vs) (q : Qd (.tup ds) S) (p : Addr) (hp : H p = none) : Q (.ref p) (upd H p (.tup vs)) :=
  k _ _ S _ (RD.newT rs r hp) (rs.frozen hp).1 (rs.frozen hp).2 q
theorem RS.newO (rs : RS g S H) {ds : List D} {vs : List V} (r : RDs g S H ds vs) {p : Addr} (hp : H p = none) : RS g (S.set p (.lst ds)) (upd H p (.lst vs)) ∧ Step S H (S.set p (.lst ds)) (upd H p (.lst vs)) := by
  have st : Step S H (S.set p (.lst ds)) (upd H p (.lst vs)) := Step.write (.inr hp)
  exact ⟨rs.write (.inr hp) st ⟨vs, upd_same, r.mono st⟩ (fun b e => by rw [hp] at e; cases e), st⟩
theorem Cont.newL {Qd : QV} {Q : VK} {fz : Bool} {ds : List D} {vs : List V} (k : Cont g S H Qd Q) (rs : RS g S H) (r : RDs g S H ds vs) (q : newL fz ds S Qd) (p : Addr) (hp : H p = none) : Q (.ref p) (upd H p (.lst vs)) := by
  unfold G.newL at q
  by_cases hf : fz = true
  · rw [if_pos hf] at q
    exact k _ _ S _ (RD.newF rs r hp) (rs.frozen hp).1 (rs.frozen hp).2 q
  · rw [if_neg hf] at q
    exact k _ (.obj p) _ _ (by unfold RD; rfl) (rs.newO r hp).1 (rs.newO r hp).2 (q p (rs.free hp))
/-! ### reading data -/
theorem RD.seq {d : D} {v : V} {xs : List D} (rs : RS g S H) (r : RD g S H d v) (e : seqOf S d = some xs) : ∃ p vs, v = .ref p ∧ (SqL g.K H p vs ∨ SqT g.K H p vs) ∧ RDs g S H xs vs := by
  cases d with
  | tup ys =>
    simp only [seqOf, Option.some.injEq] at e
    subst e
    unfold RD at r
    obtain ⟨a, vs, e, k, r⟩ := r
    refine ⟨a, vs, e, .inr ?_, r⟩
    rcases k with ⟨_, _, k⟩ | k
    · exact .inl k
    · exact .inr k
  | lst ys =>
    simp only [seqOf, Option.some.injEq] at e
    subst e
    unfold RD at r
    obtain ⟨a, vs, e, _, _, k, r⟩ := r
    exact ⟨a, vs, e, .inl (.inl k), r⟩
  | lsk ys =>
    simp only [seqOf, Option.some.injEq] at e
    subst e
    unfold RD at r
    obtain ⟨a, vs, e, k, r⟩ := r
    refine ⟨a, vs, e, .inl ?_, r⟩
    rcases k with ⟨_, _, k⟩ | k
    · exact .inl k
    · exact .inr k
  | obj a =>
    unfold RD at r
    subst r
    simp only [seqOf] at e
    split at e
    · rename_i ys hs
      cases e
      obtain ⟨vs, h, r⟩ := (rs.1 a _ hs).2
      exact ⟨a, vs, rfl, .inl (SqL.of h), r⟩
    · cases e
  | non => cases e
  | bl b => cases e
  | int i => cases e
  | str s => cases e
  | ty n => cases e
  | gl x => cases e
  | ins _ _ _ => cases e
  | dct _ _ => cases e
theorem RD.seqL {d : D} {v : V} {xs : List D} (rs : RS g S H) (r : RD g S H d v) (e : seqOf S d = some xs) (ne : ∀ ys, d = .tup ys → False) : ∃ p vs, v = .ref p ∧ SqL g.K H p vs ∧ RDs g S H xs vs := by
  cases d with
  | tup ys => exact (ne ys rfl).elim
  | lst ys =>
    simp only [seqOf, Option.some.injEq] at e
    subst e
    unfold RD at r
    obtain ⟨a, vs, e, _, _, k, r⟩ := r
    exact ⟨a, vs, e, .inl k, r⟩
  | lsk ys =>
    simp only [seqOf, Option.some.injEq] at e
    subst e
    unfold RD at r
    obtain ⟨a, vs, e, k, r⟩ := r
    refine ⟨a, vs, e, ?_, r⟩
    rcases k with ⟨_, _, k⟩ | k
    · exact .inl k
    · exact .inr k
  | obj a =>
    unfold RD at r
    subst r
    simp only [seqOf] at e
    split at e
    · rename_i ys hs
      cases e
      obtain ⟨vs, h, r⟩ := (rs.1 a _ hs).2
      exact ⟨a, vs, rfl, SqL.of h, r⟩
    · cases e
  | non => cases e
  | bl b => cases e
  | int i => cases e
  | str s => cases e
  | ty n => cases e
  | gl x => cases e
  | ins _ _ _ => cases e
  | dct _ _ => cases e
theorem RFs.zip : ∀ {ns : List Str} {ds : List D} {vs : List V}, RDs g S H ds vs → RFs g S H (ns.zip ds) (ns.zip vs)
  | [], ds, vs, _ => by rw [List.zip_nil_left, List.zip_nil_left]; rfl
  | n :: ns, [], vs, r => by unfold RDs at r; subst r; rw [List.zip_nil_right, List.zip_nil_right]; rfl
  | n :: ns, d :: ds, vs, r => by
    unfold RDs at r
    obtain ⟨v, r', rfl, h1, h2⟩ := r
    rw [List.zip_cons_cons, List.zip_cons_cons]
    exact ⟨v, _, rfl, h1, RFs.zip h2⟩
theorem RD.inst {d : D} {v : V} {C : Str} {fs : List (Str × D)} (rs : RS g S H) (r : RD g S H d v) (e : insOf S d = some (C, fs)) : ∃ a c dx gs, v = .ref a ∧ g.mg C = some (.ref c) ∧ H a = some (.ins c dx gs) ∧ H dx = some (.own a) ∧ RFs g S H fs gs := by
  cases d with
  | ins C' ns ds =>
    simp only [insOf, Option.some.injEq, Prod.mk.injEq] at e
    obtain ⟨rfl, rfl⟩ := e
    unfold RD at r
    obtain ⟨a, c, dx, vs, e, ⟨_, _, q⟩, ⟨_, _, q'⟩, m, l, r⟩ := r
    exact ⟨a, c, dx, _, e, m, q, q', RFs.zip r⟩
  | obj a =>
    unfold RD at r
    subst r
    simp only [insOf] at e
    split at e
    · rename_i C' fs' hs
      cases e
      obtain ⟨c, dx, gs, m, h, _, o, r⟩ := (rs.1 a _ hs).2
      exact ⟨a, c, dx, gs, rfl, m, h, o, r⟩
    · cases e
  | _ => cases e
theorem RKs.zip : ∀ {ks : List D} {qs : List Key} {ds : List D} {vs : List V}, ks.map toKey = qs.map some → RDs g S H ds vs → RKs g S H (ks.zip ds) (qs.zip vs)
  | [], [], ds, vs, _, _ => by rw [List.zip_nil_left, List.zip_nil_left]; rfl
  | [], _ :: _, _, _, h, _ => by cases h
  | _ :: _, [], _, _, h, _ => by cases h
  | k :: ks, q :: qs, [], vs, _, r => by unfold RDs at r; subst r; rw [List.zip_nil_right, List.zip_nil_right]; rfl
  | k :: ks, q :: qs, d :: ds, vs, h, r => by
    unfold RDs at r
    obtain ⟨v, r', rfl, h1, h2⟩ := r
    rw [List.map_cons, List.map_cons, List.cons.injEq] at h
    rw [List.zip_cons_cons, List.zip_cons_cons]
    exact ⟨q, v, _, rfl, h.1, h1, RKs.zip h.2 h2⟩
theorem RD.dict {d : D} {v : V} {kvs : List (D × D)} (rs : RS g S H) (r : RD g S H d v) (e : dctOf S d = some kvs) : ∃ a gs, v = .ref a ∧ H a = some (.dK gs) ∧ RKs g S H kvs gs := by
  cases d with
  | dct ks ds =>
    simp only [dctOf, Option.some.injEq] at e
    subst e
    unfold RD at r
    obtain ⟨a, qs, vs, e, ⟨_, _, q⟩, m, l, r⟩ := r
    exact ⟨a, _, e, q, RKs.zip m r⟩
  | obj a =>
    unfold RD at r
    subst r
    simp only [dctOf] at e
    split at e
    · rename_i kvs' hs
      cases e
      obtain ⟨gs, h, r⟩ := (rs.1 a _ hs).2
      exact ⟨a, gs, rfl, h, r⟩
    · cases e
  | _ => cases e
theorem RD.tup {v : V} {xs : List D} (r : RD g S H (.tup xs) v) : ∃ p vs, v = .ref p ∧ SqT g.K H p vs ∧ RDs g S H xs vs := by
  unfold RD at r
  obtain ⟨a, vs, e, k, r⟩ := r
  refine ⟨a, vs, e, ?_, r⟩
  rcases k with ⟨_, _, k⟩ | k
  · exact .inl k
  · exact .inr k
theorem RD.lst {v : V} {xs : List D} (r : RD g S H (.lst xs) v) : ∃ p vs, v = .ref p ∧ Rd H p (.lst vs) ∧ RDs g S H xs vs := by
  unfold RD at r
  obtain ⟨a, vs, e, _, _, k, r⟩ := r
  exact ⟨a, vs, e, k, r⟩
theorem mkS_len (s : List Nat) : (mkS s).length = s.length := by show (s.toArray).size = s.length; simp
theorem mkS_list (s : List Nat) : (mkS s).cps.toList = s := by show s.toArray.toList = s; simp
theorem mkS_eta (z : Str) : mkS z.cps.toList = z := by cases z; simp [mkS]
theorem lim_size {n : Nat} (h : n ≤ lim) : n ≤ sizeLine := Nat.le_trans h (by decide)
theorem lim_size' {n : Nat} (h : n < lim) : n < sizeLine := Nat.lt_of_lt_of_le h (by decide)
/-! ### to the library's data -/
mutual
theorem RD.dp : ∀ (d : D) (v : V), plain d = true → RD g S H d v → Dp g.K H v (toPy d)
  | .non, v, _, h => by unfold RD at h; subst h; unfold toPy; exact .non
  | .bl b, v, _, h => by unfold RD at h; subst h; unfold toPy; exact .bl b
  | .int i, v, _, h => by unfold RD at h; subst h; unfold toPy; exact .int i
  | .str s, v, _, h => by unfold RD at h; obtain ⟨rfl, _⟩ := h; unfold toPy; exact .str _
  | .tup xs, v, hp, h => by
    obtain ⟨p, vs, rfl, k, r⟩ := h.tup
    unfold toPy
    unfold plain at hp
    exact .tup k (RDs.dp xs vs hp r)
  | .lst xs, v, hp, h => by
    obtain ⟨p, vs, rfl, k, r⟩ := h.lst
    unfold toPy
    unfold plain at hp
    exact .lst (.inl k) (RDs.dp xs vs hp r)
  | .lsk _, _, hp, _ => by unfold plain at hp; cases hp
  | .obj _, _, hp, _ => by unfold plain at hp; cases hp
  | .ty _, _, hp, _ => by unfold plain at hp; cases hp
  | .gl _, _, hp, _ => by unfold plain at hp; cases hp
  | .ins _ _ _, _, hp, _ => by unfold plain at hp; cases hp
  | .dct _ _, _, hp, _ => by unfold plain at hp; cases hp
theorem RDs.dp : ∀ (ds : List D) (vs : List V), plains ds = true → RDs g S H ds vs → DpAll g.K H vs (toPys ds)
  | [], vs, _, h => by unfold RDs at h; subst h; unfold toPys; exact .nil
  | d :: ds, vs, hp, h => by
    unfold RDs at h
    obtain ⟨v, r, rfl, h1, h2⟩ := h
    unfold plains at hp
    rw [Bool.and_eq_true] at hp
    unfold toPys
    exact .cons (RD.dp d v hp.1 h1) (RDs.dp ds r hp.2 h2)
end
mutual
theorem RD.lay : ∀ (d : D) (v : V), plain d = true → RD g S H d v → (toPy d).canLay0 = true
  | .non, v, _, h => by unfold toPy PyData.canLay0; rfl
  | .bl b, v, _, h => by unfold toPy PyData.canLay0; rfl
  | .int i, v, _, h => by unfold toPy PyData.canLay0; rfl
  | .str s, v, _, h => by
    unfold RD at h; obtain ⟨rfl, h⟩ := h; unfold toPy PyData.canLay0 PyData.strOk
    rw [← Array.all_toList]
    simpa using h
  | .tup xs, v, hp, h => by
    obtain ⟨p, vs, rfl, k, r⟩ := h.tup
    unfold toPy PyData.canLay0
    unfold plain at hp
    exact RDs.lay xs vs hp r
  | .lst xs, v, hp, h => by
    obtain ⟨p, vs, rfl, k, r⟩ := h.lst
    unfold toPy PyData.canLay0
    unfold plain at hp
    exact RDs.lay xs vs hp r
  | .lsk _, _, hp, _ => by unfold plain at hp; cases hp
  | .obj _, _, hp, _ => by unfold plain at hp; cases hp
  | .ty _, _, hp, _ => by unfold plain at hp; cases hp
  | .gl _, _, hp, _ => by unfold plain at hp; cases hp
  | .ins _ _ _, _, hp, _ => by unfold plain at hp; cases hp
  | .dct _ _, _, hp, _ => by unfold plain at hp; cases hp
theorem RDs.lay : ∀ (ds : List D) (vs : List V), plains ds = true → RDs g S H ds vs → PyData.canLayAll0 (toPys ds) = true
  | [], vs, _, h => by unfold toPys PyData.canLayAll0; rfl
  | d :: ds, vs, hp, h => by
    unfold RDs at h
    obtain ⟨v, r, rfl, h1, h2⟩ := h
    unfold plains at hp
    rw [Bool.and_eq_true] at hp
    unfold toPys PyData.canLayAll0
    rw [RD.lay d v hp.1 h1, RDs.lay ds r hp.2 h2]; rfl
end
mutual
theorem depth_py : ∀ d : D, (toPy d).depth = depth d
  | .non => by unfold toPy PyData.depth depth; rfl
  | .bl b => by unfold toPy PyData.depth depth; rfl
  | .int i => by unfold toPy PyData.depth depth; rfl
  | .str s => by unfold toPy PyData.depth depth; rfl
  | .tup xs => by unfold toPy PyData.depth depth; rw [depths_py xs]
  | .lst xs => by unfold toPy PyData.depth depth; rw [depths_py xs]
  | .lsk _ => by unfold toPy PyData.depth depth; rfl
  | .obj _ => by unfold toPy PyData.depth depth; rfl
  | .ty _ => by unfold toPy PyData.depth depth; rfl
  | .gl _ => by unfold toPy PyData.depth depth; rfl
  | .ins _ _ _ => by unfold toPy PyData.depth depth; rfl
  | .dct _ _ => by unfold toPy PyData.depth depth; rfl
theorem depths_py : ∀ ds : List D, PyData.depthAll (toPys ds) = depths ds
  | [] => by unfold toPys PyData.depthAll depths; rfl
  | d :: ds => by unfold toPys PyData.depthAll depths; rw [depth_py d, depths_py ds]
end
theorem mkS_beq (a b : List Nat) : (mkS a == mkS b) = (a == b) := by
  rw [Bool.eq_iff_iff, beq_iff_eq, beq_iff_eq]
  constructor
  · intro h
    have := congrArg (fun z : Str => z.cps.toList) h
    simpa using this
  · rintro rfl; rfl
mutual
theorem beq_py : ∀ x y : D, plain x = true → plain y = true → PyData.eqv (toPy x) (toPy y) = beq x y
  | .tup xs, .tup ys, hx, hy => by unfold plain at hx hy; unfold toPy PyData.eqv beq; exact beqs_py xs ys hx hy
  | .lst xs, .lst ys, hx, hy => by unfold plain at hx hy; unfold toPy PyData.eqv beq; exact beqs_py xs ys hx hy
  | .str a, .str b, _, _ => by unfold toPy PyData.eqv beq; exact mkS_beq a b
  | .non, .non, _, _ => by unfold toPy PyData.eqv beq; rfl
  | .non, .bl _, _, _ => by unfold toPy PyData.eqv beq; rfl
  | .non, .int _, _, _ => by unfold toPy PyData.eqv beq; rfl
  | .non, .str _, _, _ => by unfold toPy PyData.eqv beq; rfl
  | .non, .tup _, _, _ => by unfold toPy PyData.eqv beq; rfl
  | .non, .lst _, _, _ => by unfold toPy PyData.eqv beq; rfl
  | .bl _, .non, _, _ => by unfold toPy PyData.eqv beq; rfl
  | .bl _, .bl _, _, _ => by unfold toPy PyData.eqv beq; rfl
  | .bl _, .int _, _, _ => by unfold toPy PyData.eqv beq; rfl
  | .bl _, .str _, _, _ => by unfold toPy PyData.eqv beq; rfl
  | .bl _, .tup _, _, _ => by unfold toPy PyData.eqv beq; rfl
  | .bl _, .lst _, _, _ => by unfold toPy PyData.eqv beq; rfl
  | .int _, .non, _, _ => by unfold toPy PyData.eqv beq; rfl
  | .int _, .bl _, _, _ => by unfold toPy PyData.eqv beq; rfl
  | .int _, .int _, _, _ => by unfold toPy PyData.eqv beq; rfl
  | .int _, .str _, _, _ => by unfold toPy PyData.eqv beq; rfl
  | .int _, .tup _, _, _ => by unfold toPy PyData.eqv beq; rfl
  | .int _, .lst _, _, _ => by unfold toPy PyData.eqv beq; rfl
  | .str _, .non, _, _ => by unfold toPy PyData.eqv beq; rfl
  | .str _, .bl _, _, _ => by unfold toPy PyData.eqv beq; rfl
  | .str _, .int _, _, _ => by unfold toPy PyData.eqv beq; rfl
  | .str _, .tup _, _, _ => by unfold toPy PyData.eqv beq; rfl
  | .str _, .lst _, _, _ => by unfold toPy PyData.eqv beq; rfl
  | .tup _, .non, _, _ => by unfold toPy PyData.eqv beq; rfl
  | .tup _, .bl _, _, _ => by unfold toPy PyData.eqv beq; rfl
  | .tup _, .int _, _, _ => by unfold toPy PyData.eqv beq; rfl
  | .tup _, .str _, _, _ => by unfold toPy PyData.eqv beq; rfl
  | .tup _, .lst _, _, _ => by unfold toPy PyData.eqv beq; rfl
  | .lst _, .non, _, _ => by unfold toPy PyData.eqv beq; rfl
  | .lst _, .bl _, _, _ => by unfold toPy PyData.eqv beq; rfl
  | .lst _, .int _, _, _ => by unfold toPy PyData.eqv beq; rfl
  | .lst _, .str _, _, _ => by unfold toPy PyData.eqv beq; rfl
  | .lst _, .tup _, _, _ => by unfold toPy PyData.eqv beq; rfl
  | .lsk _, _, hp, _ => by unfold plain at hp; cases hp
  | .obj _, _, hp, _ => by unfold plain at hp; cases hp
  | .ty _, _, hp, _ => by unfold plain at hp; cases hp
  | .gl _, _, hp, _ => by unfold plain at hp; cases hp
  | .ins _ _ _, _, hp, _ => by unfold plain at hp; cases hp
  | .dct _ _, _, hp, _ => by unfold plain at hp; cases hp
  | _, .lsk _, _, hp => by unfold plain at hp; cases hp
  | _, .obj _, _, hp => by unfold plain at hp; cases hp
  | _, .ty _, _, hp => by unfold plain at hp; cases hp
  | _, .gl _, _, hp => by unfold plain at hp; cases hp
  | _, .ins _ _ _, _, hp => by unfold plain at hp; cases hp
  | _, .dct _ _, _, hp => by unfold plain at hp; cases hp
theorem beqs_py : ∀ xs ys : List D, plains xs = true → plains ys = true → PyData.eqvAll (toPys xs) (toPys ys) = beqs xs ys
  | [], [], _, _ => by unfold toPys PyData.eqvAll beqs; rfl
  | [], _ :: _, _, _ => by unfold toPys PyData.eqvAll beqs; rfl
  | _ :: _, [], _, _ => by unfold toPys PyData.eqvAll beqs; rfl
  | x :: xs, y :: ys, hx, hy => by
    unfold plains at hx hy
    rw [Bool.and_eq_true] at hx hy
    unfold toPys PyData.eqvAll beqs
    rw [beq_py x y hx.1 hy.1, beqs_py xs ys hx.2 hy.2]
end
theorem RD.shaped {d : D} {v : V} (hp : plain d = true) (hd : depth d ≤ 64) (r : RD g S H d v) : SeqAt.shaped (toPy d) = true := by
  unfold SeqAt.shaped
  rw [r.lay d v hp, depth_py d, decide_eq_true hd]; rfl
end
end G
/-! G3: the operators, subscripts, built-in calls keep what the small syntax says of them. -/
namespace G
open PySem L2
section
variable {X : Cx} {g : Gx} {S S0 S1 S' : Sto} {H H0 H1 H' : Hp} {ρ : Sl} {σ : L2.St}
theorem rd_int {i : Int} : RD g S H (.int i) (.int i) := by unfold RD; rfl
theorem rd_bl {b : Bool} : RD g S H (.bl b) (.bl b) := by unfold RD; rfl
theorem rd_non : RD g S H .non .non := by unfold RD; rfl
theorem rd_obj {a : Addr} : RD g S H (.obj a) (.ref a) := by unfold RD; rfl
theorem rd_str {s : List Nat} (h : ∀ c ∈ s, c < 0x110000) : RD g S H (.str s) (.str (mkS s)) := by unfold RD; exact ⟨rfl, h⟩
theorem RD.ofInt {v : V} {i : Int} (r : RD g S H (.int i) v) : v = .int i := by unfold RD at r; exact r
theorem RD.ofBl {v : V} {b : Bool} (r : RD g S H (.bl b) v) : v = .bl b := by unfold RD at r; exact r
theorem RD.ofNon {v : V} (r : RD g S H .non v) : v = .non := by unfold RD at r; exact r
theorem RD.ofObj {v : V} {a : Addr} (r : RD g S H (.obj a) v) : v = .ref a := by unfold RD at r; exact r
theorem RD.ofStr {v : V} {s : List Nat} (r : RD g S H (.str s) v) : v = .str (mkS s) ∧ ∀ c ∈ s, c < 0x110000 := by unfold RD at r; exact r
theorem mkS_append (a b : List Nat) : mkS a ++ mkS b = mkS (a ++ b) := by
  show (⟨a.toArray ++ b.toArray⟩ : Str) = ⟨(a ++ b).toArray⟩
  simp
/-- two lists glued -/
def rCatR : R2 := fun x y H Q => ∃ l b xs zs, x = .ref l ∧ y = .ref b ∧ Rd H l (.lst xs) ∧ Rd H b (.lst zs) ∧ xs.length + zs.length ≤ sizeLine ∧ ∀ p, H p = none → Q (.ref p) (upd H p (.lst (xs ++ zs)))
theorem op_catR : OpR X (binaryOp .Add) rCatR := by
  intro pins s σ H x y v u Q I rx ry ⟨l, b, xs, zs, ex, ey, h1, h2, hz, q⟩
  subst ex ey
  cases rx; cases ry
  obtain ⟨z1, i1, n1, r1, e1⟩ := h1.ok I.hok
  obtain ⟨z2, i2, n2, r2, e2⟩ := h2.ok I.hok
  have l1 := r1.length
  have l2 := r2.length
  refine PySem.P.add_list e1 e2 ?_ (by simp only [List.size_toArray]; omega)
  rw [show i1.toArray ++ i2.toArray = (i1 ++ i2).toArray by simp]
  exact ⟨.ref _, _, I.lnew (t' := s.toks) (r1.append r2) (by rw [List.length_append]; exact hz), rfl, q _ I.fresh⟩
theorem flat_rep_len {α : Type} (s : List α) : ∀ n : Nat, (List.replicate n s).flatten.length = n * s.length
  | 0 => by simp
  | n + 1 => by rw [List.replicate_succ, List.flatten_cons, List.length_append, flat_rep_len s n, Nat.succ_mul]; omega
theorem mul_mkS (s : List Nat) (k : Int) (hk : 0 ≤ k) : Txt.mul (mkS s) k = mkS (List.replicate k.toNat s).flatten := by
  unfold Txt.mul
  split
  · have : k = 0 := by omega
    subst this
    rfl
  · split
    · rename_i h1 h2
      rw [Bool.or_eq_true, beq_iff_eq, beq_iff_eq] at h2
      rcases h2 with h2 | h2
      · subst h2
        show mkS s = mkS (List.replicate 1 s).flatten
        simp
      · rw [mkS_len] at h2
        rw [List.eq_nil_of_length_eq_zero h2]
        have : ∀ n, (List.replicate n ([] : List Nat)).flatten = [] := fun n => List.eq_nil_of_length_eq_zero (by rw [flat_rep_len]; simp)
        rw [this]
    · have : ∀ (n : Nat) (acc : Array Nat), (List.replicate n s.toArray).foldl (· ++ ·) acc = acc ++ (List.replicate n s).flatten.toArray := by
        intro n
        induction n with
        | zero => intro acc; simp
        | succ n ih => intro acc; rw [List.replicate_succ, List.foldl_cons, ih, List.replicate_succ, List.flatten_cons]; simp
      show (⟨(List.replicate k.toNat s.toArray).foldl (· ++ ·) #[]⟩ : Str) = ⟨(List.replicate k.toNat s).flatten.toArray⟩
      rw [this]
      simp
theorem rds_rep {S : Sto} {H : Hp} {ds : List D} {vs : List V} (r : RDs g S H ds vs) : ∀ n : Nat, RDs g S H (List.replicate n ds).flatten (List.replicate n vs).flatten
  | 0 => RDs.nil
  | n + 1 => by
    rw [List.replicate_succ, List.replicate_succ, List.flatten_cons, List.flatten_cons]
    exact r.append (rds_rep r n)
theorem op_sound (hK : X.K = g.K) (op : Operator) : OpR X (binaryOp op) (R2d g (opS op)) := by
  intro pins s σ H x y v u Q I rx ry ⟨d1, d2, S, Qd, r1, r2, rs, h, k⟩
  unfold opS at h
  split at h
  · rw [r1.ofInt] at rx; rw [r2.ofInt] at ry
    exact op_add pins s σ H _ _ v u Q I rx ry ⟨_, _, rfl, rfl, k.here rs rd_int h⟩
  · obtain ⟨e1, c1⟩ := r1.ofStr
    obtain ⟨e2, c2⟩ := r2.ofStr
    rw [e1] at rx; rw [e2] at ry
    refine op_add_str pins s σ H _ _ v u Q I rx ry ⟨_, _, rfl, rfl, by rw [mkS_len, mkS_len]; exact lim_size h.1, ?_⟩
    rw [mkS_append]
    refine k.here rs (rd_str fun c hc => ?_) h.2
    rcases List.mem_append.mp hc with hc | hc
    · exact c1 c hc
    · exact c2 c hc
  · obtain ⟨p1, v1, e1, k1, q1⟩ := r1.lst
    obtain ⟨p2, v2, e2, k2, q2⟩ := r2.lst
    rw [e1] at rx; rw [e2] at ry
    exact op_catR pins s σ H _ _ v u Q I rx ry ⟨_, _, _, _, rfl, rfl, k1, k2, by rw [← q1.length, ← q2.length]; exact lim_size h.1, fun p hp => k.newL (fz := true) rs (q1.append q2) (by unfold newL; rw [if_pos rfl]; exact h.2) p hp⟩
  · obtain ⟨p1, v1, e1, k1, q1⟩ := r1.tup
    obtain ⟨p2, v2, e2, k2, q2⟩ := r2.tup
    have r1' := r1; have r2' := r2
    rw [e1] at rx r1'; rw [e2] at ry r2'
    refine op_catA pins s σ H _ _ v u Q I rx ry ⟨_, _, _, _, rfl, rfl, hK ▸ k1, hK ▸ k2, by rw [← q1.length, ← q2.length]; exact lim_size h.1, fun e => ?_, fun _ e => ?_, fun _ _ p hp => k.newT rs (q1.append q2) h.2 p hp⟩
    · have : (_ : List D) = [] := List.eq_nil_of_length_eq_zero (q1.length.trans (by rw [e]; rfl))
      rw [this, List.nil_append] at h
      exact k.here rs r2' h.2
    · have : (_ : List D) = [] := List.eq_nil_of_length_eq_zero (q2.length.trans (by rw [e]; rfl))
      rw [this, List.append_nil] at h
      exact k.here rs r1' h.2
  · rw [r1.ofInt] at rx; rw [r2.ofInt] at ry
    exact op_sub pins s σ H _ _ v u Q I rx ry ⟨_, _, rfl, rfl, k.here rs rd_int h⟩
  · rw [r1.ofInt] at rx; rw [r2.ofInt] at ry
    exact op_mul pins s σ H _ _ v u Q I rx ry ⟨_, _, rfl, rfl, h.1, k.here rs rd_int h.2⟩
  · rw [r1.ofInt] at rx; rw [r2.ofInt] at ry
    exact op_fdiv pins s σ H _ _ v u Q I rx ry ⟨_, _, rfl, rfl, ⟨h.1, h.2.1⟩, k.here rs rd_int h.2.2⟩
  · rw [r1.ofInt] at rx; rw [r2.ofInt] at ry
    exact op_mod pins s σ H _ _ v u Q I rx ry ⟨_, _, rfl, rfl, h.1, k.here rs rd_int h.2⟩
  · rw [r1.ofInt] at rx; rw [r2.ofInt] at ry
    exact op_pow pins s σ H _ _ v u Q I rx ry ⟨_, _, rfl, rfl, ⟨h.1, h.2.1, h.2.2.1⟩, k.here rs rd_int h.2.2.2⟩
  · obtain ⟨e1, c1⟩ := r1.ofStr
    rw [e1] at rx; rw [r2.ofInt] at ry
    obtain ⟨t, rfl⟩ := rx
    obtain ⟨t', rfl⟩ := ry
    obtain ⟨k0, k1, hl, q⟩ := h
    rename_i sx kx
    have pr : sx.length * kx.toNat ≤ 1000 * 1000 := Nat.mul_le_mul hl (by omega)
    refine SB.mul ⟨?_, fun h1 h2 => ?_, fun h1 h2 => ?_⟩ fun t2 m => ⟨.str _, H, I.tok _, ⟨_, rfl⟩, ?_⟩
    · rw [Bool.or_eq_false_iff]; exact ⟨decide_eq_false (by omega), decide_eq_false (by omega)⟩
    · rw [mkS_len]
      have : (1000 : Int) ≤ (2 ^ 63 - 1) / kx := Int.le_ediv_of_mul_le (by omega) (by omega)
      omega
    · rw [mkS_len]
      unfold Builtin.Str.tooLong
      exact decide_eq_false (by have := lim_size (show sx.length * kx.toNat ≤ lim from pr); omega)
    · rw [mul_mkS _ _ k0]
      refine k.here rs (rd_str fun c hc => ?_) q
      obtain ⟨l, hl', hc'⟩ := List.mem_flatten.mp hc
      rw [List.eq_of_mem_replicate hl'] at hc'
      exact c1 c hc'
  · obtain ⟨p1, v1, e1, k1, q1⟩ := r1.tup
    rw [e1] at rx; rw [r2.ofInt] at ry
    obtain ⟨h0, h1, h2, h3, q⟩ := h
    refine op_repT pins s σ H _ _ v u Q I rx ry ⟨_, _, _, rfl, rfl, hK ▸ k1, fun e => h0 (List.eq_nil_of_length_eq_zero (by rw [q1.length, e]; rfl)), h1, h2, by rw [← q1.length]; exact h3, fun p hp => k.newT rs (rds_rep q1 _) q p hp⟩
  · rw [r1.ofInt] at rx; rw [r2.ofInt] at ry
    exact op_shl pins s σ H _ _ v u Q I rx ry ⟨_, _, rfl, rfl, ⟨h.1, h.2.1, h.2.2.1⟩, k.here rs rd_int h.2.2.2⟩
  · rw [r1.ofInt] at rx; rw [r2.ofInt] at ry
    exact op_and pins s σ H _ _ v u Q I rx ry ⟨_, _, rfl, rfl, k.here rs rd_int h⟩
  · rw [r1.ofInt] at rx; rw [r2.ofInt] at ry
    exact op_or pins s σ H _ _ v u Q I rx ry ⟨_, _, rfl, rfl, k.here rs rd_int h⟩
  · rw [r1.ofInt] at rx; rw [r2.ofInt] at ry
    exact op_xor pins s σ H _ _ v u Q I rx ry ⟨_, _, rfl, rfl, k.here rs rd_int h⟩
  · exact h.elim
/-! ### comparisons -/
theorem flat_V {d : D} {v : V} (h : flat d = true) (r : RD g S H d v) : flatV v = true := by
  cases d with
  | non => rw [r.ofNon]; rfl
  | bl b => rw [r.ofBl]; rfl
  | int i => rw [r.ofInt]; rfl
  | str s => rw [r.ofStr.1]; rfl
  | _ => cases h
theorem eqV_beq {d1 d2 : D} {v1 v2 : V} (h1 : flat d1 = true) (h2 : flat d2 = true) (r1 : RD g S H d1 v1) (r2 : RD g S H d2 v2) : eqV v1 v2 = beq d1 d2 := by
  cases d1 with
  | non => rw [r1.ofNon]; cases d2 with
    | non => rw [r2.ofNon]; unfold beq; rfl
    | bl b => rw [r2.ofBl]; unfold beq; rfl
    | int i => rw [r2.ofInt]; unfold beq; rfl
    | str s => rw [r2.ofStr.1]; unfold beq; rfl
    | _ => cases h2
  | bl b1 => rw [r1.ofBl]; cases d2 with
    | non => rw [r2.ofNon]; unfold beq; rfl
    | bl b => rw [r2.ofBl]; unfold beq; rfl
    | int i => rw [r2.ofInt]; unfold beq; rfl
    | str s => rw [r2.ofStr.1]; unfold beq; rfl
    | _ => cases h2
  | int i1 => rw [r1.ofInt]; cases d2 with
    | non => rw [r2.ofNon]; unfold beq; rfl
    | bl b => rw [r2.ofBl]; unfold beq; rfl
    | int i => rw [r2.ofInt]; unfold beq; rfl
    | str s => rw [r2.ofStr.1]; unfold beq; rfl
    | _ => cases h2
  | str s1 => rw [r1.ofStr.1]; cases d2 with
    | non => rw [r2.ofNon]; unfold beq; rfl
    | bl b => rw [r2.ofBl]; unfold beq; rfl
    | int i => rw [r2.ofInt]; unfold beq; rfl
    | str s => rw [r2.ofStr.1]; unfold beq; exact mkS_beq s1 s
    | _ => cases h2
  | _ => cases h1
theorem any_beq {x : D} {vx : V} (hx : flat x = true) (rx : RD g S H x vx) : ∀ {ds : List D} {vs : List V}, RDs g S H ds vs → ds.all flat = true → vs.all flatV = true ∧ inV vx vs = ds.any fun z => beq z x
  | [], vs, r, _ => by unfold RDs at r; subst r; exact ⟨rfl, rfl⟩
  | d :: ds, vs, r, h => by
    unfold RDs at r
    obtain ⟨v, r', rfl, r1, r2⟩ := r
    rw [List.all_cons, Bool.and_eq_true] at h
    obtain ⟨i1, i2⟩ := any_beq hx rx r2 h.2
    refine ⟨by rw [List.all_cons, flat_V h.1 r1, i1]; rfl, ?_⟩
    unfold inV at i2 ⊢
    rw [List.any_cons, List.any_cons, i2, eqV_beq h.1 hx r1 rx]
theorem is_non {d : D} {v : V} (r : RD g S H d v) : decide (v = .non) = isNon d := by
  cases d with
  | non => rw [r.ofNon]; rfl
  | bl b => rw [r.ofBl]; rfl
  | int i => rw [r.ofInt]; rfl
  | str s => rw [r.ofStr.1]; rfl
  | tup xs => obtain ⟨p, vs, rfl, _⟩ := r.tup; rfl
  | lst xs => obtain ⟨p, vs, rfl, _⟩ := r.lst; rfl
  | lsk xs => unfold RD at r; obtain ⟨p, vs, rfl, _⟩ := r; rfl
  | obj a => rw [r.ofObj]; rfl
  | ty n => unfold RD at r; subst r; rfl
  | gl x => unfold RD at r; obtain ⟨a, rfl, _⟩ := r; rfl
  | ins C ns ds => unfold RD at r; obtain ⟨a, _, _, _, rfl, _⟩ := r; rfl
  | dct ks ds => unfold RD at r; obtain ⟨a, _, _, rfl, _⟩ := r; rfl
theorem key_rd {d : D} {v : V} {q : Key} (r : RD g S H d v) (h : toKey d = some q) : v = kV q := by
  cases d <;> simp only [toKey, Option.some.injEq, reduceCtorEq] at h
  · subst h; exact r.ofInt
  · subst h; exact r.ofStr.1
theorem getK_val {k : D} {q : Key} (hq : toKey k = some q) : ∀ {kvs : List (D × D)} {gs : List (Key × V)}, RKs g S H kvs gs → (∀ d, getK kvs k = some d → ∃ v, valV gs q = some v ∧ RD g S H d v) ∧ (getK kvs k = none → valV gs q = none)
  | [], gs, r => by
    have e : gs = [] := r
    subst e
    exact ⟨fun d h => (by cases h), fun _ => rfl⟩
  | (x, d) :: kvs, gs, ⟨q', v, gs', e, hk, rd, r⟩ => by
    subst e
    obtain ⟨i1, i2⟩ := getK_val hq r
    unfold getK valV at *
    rw [List.find?_cons, List.find?_cons]
    by_cases hx : q' = q
    · have e1 : keyB k (x, d) = true := by unfold keyB; rw [decide_eq_true_eq]; rw [hk, hq, hx]
      have e2 : decide (((q', v) : Key × V).1 = q) = true := decide_eq_true hx
      rw [e1, e2]
      exact ⟨fun d' h => (by cases h; exact ⟨v, rfl, rd⟩), fun h => (by cases h)⟩
    · have e1 : keyB k (x, d) = false := by unfold keyB; rw [decide_eq_false_iff_not]; rw [hk, hq]; exact fun h => hx (Option.some.inj h)
      have e2 : decide (((q', v) : Key × V).1 = q) = false := decide_eq_false hx
      rw [e1, e2]
      exact ⟨i1, i2⟩
theorem dget_of {d k : D} {v y : V} {kvs : List (D × D)} (rs : RS g S H) (r : RD g S H d v) (e : dctOf S d = some kvs) (rk : RD g S H k y) (hk : (toKey k).isSome = true) :
    ∃ a o, v = .ref a ∧ DGet H a y o ∧ (∀ d', getK kvs k = some d' → ∃ v', o = some v' ∧ RD g S H d' v') ∧ (getK kvs k).isSome = o.isSome := by
  obtain ⟨q, hq⟩ := Option.isSome_iff_exists.mp hk
  obtain ⟨a, gs, rfl, ha, rg⟩ := r.dict rs e
  obtain ⟨h1, h2⟩ := getK_val hq rg
  have ey := key_rd rk hq
  subst ey
  refine ⟨a, valV gs q, rfl, DGet.k ha, h1, ?_⟩
  cases hg : getK kvs k with
  | none => rw [h2 hg]; rfl
  | some d' => obtain ⟨v', hv, _⟩ := h1 d' hg; rw [hv]; rfl
theorem inS_dct {x y : D} {kk : Bool → Prop} (h : inS S x y kk) : (∃ kvs, dctOf S y = some kvs ∧ (toKey x).isSome = true ∧ kk (getK kvs x).isSome) ∨ ∃ xs, seqOf S y = some xs ∧ flat x = true ∧ xs.all flat = true ∧ kk (xs.any fun z => beq z x) := by
  unfold inS at h
  split at h
  · exact .inl ⟨_, rfl, h⟩
  · split at h
    · rename_i e; exact .inl ⟨_, by simp only [dctOf, e], h⟩
    · rename_i e; exact .inr ⟨_, by simp only [seqOf, e], h⟩
    · exact h.elim
  · exact .inr h
theorem inS_imp {x y : D} {kk kk' : Bool → Prop} (h : inS S x y kk) (f : ∀ b, kk b → kk' b) : inS S x y kk' := by
  unfold inS at h ⊢
  split at h
  · exact ⟨h.1, f _ h.2⟩
  · split at h
    · exact ⟨h.1, f _ h.2⟩
    · exact ⟨h.1, h.2.1, f _ h.2.2⟩
    · exact h.elim
  · obtain ⟨xs, a, b, c, d⟩ := h; exact ⟨xs, a, b, c, f _ d⟩
theorem cmp_sound (hK : X.K = g.K) (hu : X.A.units + 64 < cLine) (op : CmpOp) : OpR X (compareOp op) (R2d g (cmpS op)) := by
  intro pins s σ H x y v u Q I rx ry ⟨d1, d2, S, Qd, r1, r2, rs, h, k⟩
  unfold cmpS at h
  split at h
  · rw [r1.ofInt] at rx; rw [r2.ofInt] at ry
    exact op_lt pins s σ H _ _ v u Q I rx ry ⟨_, _, rfl, rfl, k.here rs rd_bl h⟩
  · rw [r1.ofInt] at rx; rw [r2.ofInt] at ry
    exact op_le pins s σ H _ _ v u Q I rx ry ⟨_, _, rfl, rfl, k.here rs rd_bl h⟩
  · rw [r1.ofInt] at rx; rw [r2.ofInt] at ry
    exact op_gt pins s σ H _ _ v u Q I rx ry ⟨_, _, rfl, rfl, k.here rs rd_bl h⟩
  · rw [r1.ofInt] at rx; rw [r2.ofInt] at ry
    exact op_ge pins s σ H _ _ v u Q I rx ry ⟨_, _, rfl, rfl, k.here rs rd_bl h⟩
  · rw [r1.ofStr.1] at rx; rw [r2.ofStr.1] at ry
    refine op_lt_str pins s σ H _ _ v u Q I rx ry ⟨_, _, rfl, rfl, ?_⟩
    rw [mkS_list, mkS_list]
    exact k.here rs rd_bl h
  · rw [r1.ofStr.1] at rx; rw [r2.ofStr.1] at ry
    refine op_in_sign pins s σ H _ _ v u Q I rx ry ⟨_, _, rfl, rfl, ?_⟩
    rw [mkS_list]
    exact k.here rs rd_bl h
  · rw [r1.ofStr.1] at rx; rw [r2.ofStr.1] at ry
    refine op_notIn_sign pins s σ H _ _ v u Q I rx ry ⟨_, _, rfl, rfl, ?_⟩
    rw [mkS_list]
    exact k.here rs rd_bl h
  · obtain ⟨⟨p1, p2, e1, e2⟩, q⟩ := h
    refine op_eqD hu pins s σ H _ _ v u Q I rx ry ⟨_, _, hK ▸ r1.dp _ _ p1, hK ▸ r2.dp _ _ p2, r1.shaped p1 e1, r2.shaped p2 e2, ?_⟩
    rw [beq_py _ _ p1 p2]
    exact k.here rs rd_bl q
  · obtain ⟨⟨p1, p2, e1, e2⟩, q⟩ := h
    refine op_neD hu pins s σ H _ _ v u Q I rx ry ⟨_, _, hK ▸ r1.dp _ _ p1, hK ▸ r2.dp _ _ p2, r1.shaped p1 e1, r2.shaped p2 e2, ?_⟩
    rw [beq_py _ _ p1 p2]
    exact k.here rs rd_bl q
  · rcases inS_dct h with ⟨kvs, e, hk, q⟩ | ⟨xs, e, f1, f2, q⟩
    · obtain ⟨a, o, ev, dg, _, e2⟩ := dget_of rs r2 e r1 hk
      rw [ev] at ry
      obtain rfl : u = Value.ref a := ry
      exact d_in (by omega) I dg rx fun s3 I3 => ⟨.bl o.isSome, H, I3, rfl, by rw [← e2]; exact k.here rs rd_bl q⟩
    obtain ⟨p, vs, e', sq, r⟩ := r2.seq rs e
    rw [e'] at ry
    obtain ⟨a1, a2⟩ := any_beq f1 r1 r f2
    refine op_in_seq pins s σ H _ _ v u Q I rx ry ⟨p, vs, rfl, hK ▸ sq, flat_V f1 r1, a1, ?_⟩
    rw [if_neg Bool.false_ne_true, a2]
    exact k.here rs rd_bl q
  · rcases inS_dct h with ⟨kvs, e, hk, q⟩ | ⟨xs, e, f1, f2, q⟩
    · obtain ⟨a, o, ev, dg, _, e2⟩ := dget_of rs r2 e r1 hk
      rw [ev] at ry
      obtain rfl : u = Value.ref a := ry
      exact d_notIn (by omega) I dg rx fun s3 I3 => ⟨.bl (!o.isSome), H, I3, rfl, by rw [← e2]; exact k.here rs rd_bl q⟩
    obtain ⟨p, vs, e', sq, r⟩ := r2.seq rs e
    rw [e'] at ry
    obtain ⟨a1, a2⟩ := any_beq f1 r1 r f2
    refine op_notIn_seq pins s σ H _ _ v u Q I rx ry ⟨p, vs, rfl, hK ▸ sq, flat_V f1 r1, a1, ?_⟩
    rw [if_pos rfl, a2]
    exact k.here rs rd_bl q
  · rw [r2.ofNon] at ry
    refine op_isN pins s σ H _ _ v u Q I rx ry ⟨rfl, ?_⟩
    rw [is_non r1]
    exact k.here rs rd_bl h
  · rw [r2.ofNon] at ry
    refine op_notN pins s σ H _ _ v u Q I rx ry ⟨rfl, ?_⟩
    rw [is_non r1]
    exact k.here rs rd_bl h
  · rw [r1.ofBl] at rx; rw [r2.ofBl] at ry
    cases rx
    cases ry
    exact PyProof.Rows.is_bool ⟨.bl _, H, I, rfl, k.here rs rd_bl h⟩
  · rw [r1.ofBl] at rx; rw [r2.ofBl] at ry
    cases rx
    cases ry
    exact PyProof.Rows.isnot_bool ⟨.bl _, H, I, rfl, k.here rs rd_bl h⟩
  · exact h.elim
theorem cmpS_bl {op : CmpOp} {x y : D} {S : Sto} {Q : QV} (h : cmpS op x y S Q) : cmpS op x y S fun z S' => (∃ b, z = .bl b) ∧ Q z S' := by
  unfold cmpS at h ⊢
  split at h
  all_goals first | exact h.elim | exact ⟨⟨_, rfl⟩, h⟩ | exact ⟨h.1, ⟨_, rfl⟩, h.2⟩ | exact inS_imp h fun b q => ⟨⟨_, rfl⟩, q⟩
/-! ### items and slices -/
theorem atI_map {α β : Type} (f : α → β) (xs : List α) (i : Int) : atI (xs.map f) i = (atI xs i).map f := by
  unfold atI
  rw [List.length_map]
  cases ixN xs.length i with
  | none => rfl
  | some j => simp
theorem RDs.atI {ds : List D} {vs : List V} (r : RDs g S H ds vs) {i : Int} {d : D} (h : L2.atI ds i = some d) : ∃ v, L2.atI vs i = some v ∧ RD g S H d v := by
  unfold L2.atI at h ⊢
  rw [r.length] at h
  cases hj : ixN vs.length i with
  | none => rw [hj] at h; cases h
  | some j =>
    rw [hj] at h
    exact r.get j d h
open PySem.Spec PyProof.Rows in
theorem ix_dict (hu : X.A.units + 1 < cLine) : IxR X (fun x y H Q => ∃ a v, x = .ref a ∧ DGet H a y (some v) ∧ Q v H) := by
  intro value slice pins s σ H x y v u Q I rx ry ⟨a, z, ex, dg, q⟩ hs
  subst ex
  obtain rfl : v = Value.ref a := rx
  have hT := dict_typeIs I dg
  unfold subscriptTail
  refine wpAny_bind ?_
  rw [getitemInPython_of_ne hT.not_modules]
  refine wpAny_bind (wpAny_specialOf hT PySem.F.slot_dict_getitem.lookup ?_)
  have fin : wpAny (model X.prog X.w) X.A (subscripted slice false (.ref a) u) (fun r s₃ => wpAny (model X.prog X.w) X.A (letTemporaryGo value (.ref a) r >>= fun _ => pure r) (EP X pins σ Q) X.xe s₃) X.xe s := by
    rw [hs]
    exact wpAny_operating (wpAny_mono (d_getItem hu I dg ry (Q := EP X pins σ Q) fun w' s3 I3 rw' => ⟨z, H, I3, rw', q⟩) (fun r s₃ h₃ => wpAny_bind (wpAny_letTemporaryGo (wpAny_pure h₃))) fun _ _ x => x)
  first
    | exact wpAny_pure (wpAny_bind fin)
    | exact wpAny_bind (wpAny_pure (wpAny_bind fin))
    | exact wpAny_bind fin
theorem sub_sound (hK : X.K = g.K) (hu : X.A.units + 1 < cLine) : IxR X (R2d g subS) := by
  intro value slice pins s σ H x y v u Q I rx ry ⟨d1, d2, S, Qd, r1, r2, rs, h, k⟩ hs
  unfold subS at h
  split at h
  · obtain ⟨z, c, e, q⟩ := h
    obtain ⟨e1, c1⟩ := r1.ofStr
    rw [e1] at rx; rw [r2.ofInt] at ry
    refine ix_str value slice pins s σ H _ _ v u Q I rx ry ⟨_, _, c, rfl, rfl, by rw [mkS_len]; exact lim_size z, by rw [mkS_list]; exact e, ?_⟩ hs
    refine k.here rs (rd_str (s := [c]) fun c' hc' => ?_) q
    rw [List.mem_singleton] at hc'
    subst hc'
    unfold L2.atI at e
    cases hj : ixN (List.length _) _ with
    | none => rw [hj] at e; cases e
    | some j => rw [hj] at e; exact c1 _ (List.mem_of_getElem? e)
  · obtain ⟨d, hk, hg, q⟩ := h
    obtain ⟨a, o, ev, dg, e1, _⟩ := dget_of rs r1 rfl r2 hk
    obtain ⟨v', rfl, rv'⟩ := e1 d hg
    exact ix_dict hu value slice pins s σ H _ _ v u Q I rx ry ⟨a, v', ev, dg, k.here rs rv' q⟩ hs
  · rename_i a i
    split at h
    · rename_i xs e
      obtain ⟨kk, d, rfl, ha, q⟩ := h
      obtain ⟨p, vs, e', sq, r⟩ := r1.seqL rs (xs := xs) (by simp only [seqOf, e]) (fun ys z => by cases z)
      obtain ⟨w', h1, h2⟩ := r.atI ha
      rw [e'] at rx; rw [r2.ofInt] at ry
      exact ix_list value slice pins s σ H _ _ v u Q I rx ry ⟨p, vs, _, w', rfl, rfl, hK ▸ sq, h1, k.here rs h2 q⟩ hs
    · rename_i kvs e
      obtain ⟨d, hk, hg, q⟩ := h
      obtain ⟨a', o, ev, dg, e1, _⟩ := dget_of (kvs := kvs) rs r1 (by simp only [dctOf, e]) r2 hk
      obtain ⟨v', rfl, rv'⟩ := e1 d hg
      exact ix_dict hu value slice pins s σ H _ _ v u Q I rx ry ⟨a', v', ev, dg, k.here rs rv' q⟩ hs
    · exact h.elim
  · obtain ⟨xs, d, e, ha, q⟩ := h
    obtain ⟨p, vs, e', sq, r⟩ := r1.seq rs e
    obtain ⟨w', h1, h2⟩ := r.atI ha
    rw [e'] at rx; rw [r2.ofInt] at ry
    rcases sq with sq | sq
    · exact ix_list value slice pins s σ H _ _ v u Q I rx ry ⟨p, vs, _, w', rfl, rfl, hK ▸ sq, h1, k.here rs h2 q⟩ hs
    · exact ix_tup value slice pins s σ H _ _ v u Q I rx ry ⟨p, vs, _, w', rfl, rfl, hK ▸ sq, h1, k.here rs h2 q⟩ hs
  · exact h.elim
theorem cut_mem {α : Type} {xs : List α} {lo hi : Option Int} {x : α} (h : x ∈ cut xs lo hi) : x ∈ xs := List.mem_of_mem_drop (List.mem_of_mem_take h)
theorem RDs.cut {ds : List D} {vs : List V} (r : RDs g S H ds vs) (lo hi : Option Int) : RDs g S H (G.cut ds lo hi) (cutV vs lo hi) := by
  unfold G.cut cutV
  rw [r.length]
  exact (r.drop _).take _
theorem cut_whole {α : Type} {xs : List α} {lo hi : Option Int} (h : HT.sIx xs.length 0 lo = 0 ∧ HT.sIx xs.length xs.length hi = xs.length) : cut xs lo hi = xs := by
  unfold cut
  rw [h.1, h.2]
  simp
def rSlD (g : Gx) : V → Option Int → Option Int → Hp → VK → Prop := fun x lo hi H Q => ∃ d S Qd, RD g S H d x ∧ RS g S H ∧ slS d lo hi S Qd ∧ Cont g S H Qd Q
theorem sl_sound (hK : X.K = g.K) : SlR X (rSlD g) := by
  intro pins s σ H x v vl vu lo hi sl Q I rx hsl pl pu ⟨d, S, Qd, r1, rs, h, k⟩
  unfold slS at h
  split at h
  · obtain ⟨e1, c1⟩ := r1.ofStr
    rw [e1] at rx
    refine sl_str pins s σ H _ v vl vu lo hi sl Q I rx hsl pl pu ⟨_, rfl, by rw [mkS_len]; exact lim_size h.1, ?_⟩
    have e : cutS (mkS ‹List Nat›) lo hi = mkS (cut ‹List Nat› lo hi) := by
      unfold cutS cut
      rw [mkS_list, mkS_len]
    rw [e]
    exact k.here rs (rd_str fun c hc => c1 c (cut_mem hc)) h.2
  · obtain ⟨p, vs, e', sq, r⟩ := r1.tup
    have r1' := r1
    rw [e'] at rx r1'
    refine sl_tupA pins s σ H _ v vl vu lo hi sl Q I rx hsl pl pu ⟨p, vs, rfl, hK ▸ sq, fun hw => ?_, fun _ q hq => k.newT rs (r.cut lo hi) h q hq⟩
    rw [← r.length] at hw
    rw [cut_whole hw] at h
    exact k.here rs r1' h
  · obtain ⟨xs, e, q⟩ := h
    obtain ⟨p, vs, e', sq, r⟩ := r1.seqL rs e (by assumption)
    rw [e'] at rx
    exact sl_list pins s σ H _ v vl vu lo hi sl Q I rx hsl pl pu ⟨p, vs, rfl, hK ▸ sq, fun p hp => k.newL (fz := true) rs (r.cut lo hi) (by unfold newL; rw [if_pos rfl]; exact q) p hp⟩
end
end G
/-! G4: built-in calls and methods. -/
namespace G
open PySem L2
section
variable {X : Cx} {g : Gx} {S S0 S1 S' : Sto} {H H0 H1 H' : Hp} {ρ : Sl} {σ : L2.St}
theorem RDs.one {d : D} {vs : List V} (r : RDs g S H [d] vs) : ∃ v, vs = [v] ∧ RD g S H d v := by
  unfold RDs at r
  obtain ⟨v, r', e, r1, r2⟩ := r
  unfold RDs at r2
  exact ⟨v, by rw [e, r2], r1⟩
theorem RDs.two {d d' : D} {vs : List V} (r : RDs g S H [d, d'] vs) : ∃ v v', vs = [v, v'] ∧ RD g S H d v ∧ RD g S H d' v' := by
  unfold RDs at r
  obtain ⟨v, r', e, r1, r2⟩ := r
  obtain ⟨v', e', r3⟩ := r2.one
  exact ⟨v, v', by rw [e, e'], r1, r3⟩
theorem RDs.bls : ∀ {bs : List Bool} {vs : List V}, RDs g S H (bs.map D.bl) vs → vs = bs.map V.bl
  | [], vs, r => by unfold List.map RDs at r; exact r
  | b :: bs, vs, r => by
    rw [List.map_cons] at r
    unfold RDs at r
    obtain ⟨v, r', e, r1, r2⟩ := r
    rw [e, r1.ofBl, RDs.bls r2]; rfl
theorem RDs.strs : ∀ {ss : List (List Nat)} {vs : List V}, RDs g S H (ss.map D.str) vs → vs = (ss.map mkS).map V.str ∧ ∀ s ∈ ss, ∀ c ∈ s, c < 0x110000
  | [], vs, r => by unfold List.map RDs at r; exact ⟨r, by simp⟩
  | s :: ss, vs, r => by
    rw [List.map_cons] at r
    unfold RDs at r
    obtain ⟨v, r', e, r1, r2⟩ := r
    obtain ⟨e2, c2⟩ := RDs.strs r2
    refine ⟨by rw [e, r1.ofStr.1, e2]; rfl, fun s' hs c hc => ?_⟩
    rcases List.mem_cons.mp hs with rfl | hs
    · exact r1.ofStr.2 c hc
    · exact c2 s' hs c hc
theorem rds_signs {s : List Nat} (h : ∀ c ∈ s, c < 0x110000) : RDs g S H (s.map fun c => .str [c]) (s.map fun c => V.str (mkS [c])) := by
  induction s with
  | nil => exact RDs.nil
  | cons c s ih => exact RDs.cons (rd_str fun c' hc' => by rw [List.mem_singleton] at hc'; subst hc'; exact h _ (by simp)) (ih fun c hc => h c (by simp [hc]))
theorem vals_signs {s : List Nat} {acc : Array Value} (h : ItemsOf (SignAt (mkS s)) acc (mkS s).cps.size) : Vals (s.map fun c => V.str (mkS [c])) acc.toList := by
  have hl : acc.size = s.length := by rw [h.1]; exact mkS_len s
  have key : ∀ (l : List Nat) (us : List Value), us.length = l.length → (∀ (j c : Nat), l[j]? = some c → ∃ u, us[j]? = some u ∧ RelV (.str (mkS [c])) u) → Vals (l.map fun c => V.str (mkS [c])) us := by
    intro l
    induction l with
    | nil => intro us hu _; cases us with
      | nil => exact .nil
      | cons _ _ => simp at hu
    | cons c l ih =>
      intro us hu hj
      cases us with
      | nil => simp at hu
      | cons u us =>
        obtain ⟨u', e, r⟩ := hj 0 c rfl
        simp at e
        subst e
        refine .cons r (ih us (by simpa using hu) fun j c' hc' => ?_)
        obtain ⟨u2, e2, r2⟩ := hj (j + 1) c' (by simpa using hc')
        exact ⟨u2, by simpa using e2, r2⟩
  refine key s acc.toList (by simpa using hl) fun j c hc => ?_
  have hj : j < acc.size := by rw [hl]; exact (List.getElem?_eq_some_iff.mp hc).1
  obtain ⟨c', u, hc', e⟩ := h.2 j acc[j] (by simp [hj])
  refine ⟨acc[j], by simp [hj], ?_⟩
  have : c' = c := by
    have : s[j]? = some c' := by simpa using hc'
    rw [hc] at this
    exact (Option.some.inj this).symm
  subst this
  exact ⟨u, e⟩
theorem ofString_digits (n : Int) : Str.ofString (toString n) = mkS (digits n) := by
  rw [Str.ofString_eq_toList]
  rfl
theorem digits_ok (n : Int) : ∀ c ∈ digits n, c < 0x110000 := by
  intro c hc
  unfold digits at hc
  obtain ⟨k, _, rfl⟩ := List.mem_map.mp hc
  have := k.valid
  rcases this with h | ⟨_, h⟩
  · show k.val.toNat < _
    omega
  · show k.val.toNat < _
    omega
/-! ### how things are shown -/
def okC (l : List Nat) : Prop := ∀ c ∈ l, c < 0x110000
theorem okC.app {a b : List Nat} (ha : okC a) (hb : okC b) : okC (a ++ b) := fun c hc => (List.mem_append.mp hc).elim (ha c) (hb c)
theorem okS_app {a b : Str} (ha : okC a.cps.toList) (hb : okC b.cps.toList) : okC (a ++ b).cps.toList := by
  show okC (a.cps ++ b.cps).toList
  rw [Array.toList_append]
  exact ha.app hb
theorem hex_ok (c w : Nat) : okC (List.replicate (w - ((Nat.toDigits 16 c).map Char.toNat).length) 48 ++ (Nat.toDigits 16 c).map Char.toNat) := by
  refine okC.app (fun x hx => ?_) fun x hx => ?_
  · rw [(List.mem_replicate.mp hx).2]; decide
  · obtain ⟨k, _, rfl⟩ := List.mem_map.mp hx
    rcases k.valid with h | ⟨_, h⟩
    · show k.val.toNat < _; omega
    · show k.val.toNat < _; omega
theorem okC_two {a b : Nat} (ha : a < 0x110000) (hb : b < 0x110000) : okC [a, b] := fun x hx => by
  rcases List.mem_cons.mp hx with rfl | hx
  · exact ha
  · rw [List.mem_singleton.mp hx]; exact hb
theorem reprChar_ok {q c : Nat} (h : c < 0x110000) : okC (Builtin.Str.reprChar q c) := by
  unfold Builtin.Str.reprChar
  dsimp only
  split
  · exact okC_two (by decide) h
  split
  · exact okC_two (by decide) (by decide)
  split
  · exact okC_two (by decide) (by decide)
  split
  · exact okC_two (by decide) (by decide)
  split
  · exact fun x hx => by rw [List.mem_singleton.mp hx]; exact h
  split
  · exact (okC_two (by decide) (by decide)).app (hex_ok c 2)
  split
  · exact (okC_two (by decide) (by decide)).app (hex_ok c 4)
  · exact (okC_two (by decide) (by decide)).app (hex_ok c 8)
theorem reprText_ok {x : Str} (h : okC x.cps.toList) : okC (reprText x).cps.toList := by
  have hq : reprQuote x < 0x110000 := by unfold reprQuote; split <;> decide
  have key : ∀ (l : List Nat) (acc : Array Nat), okC l → okC acc.toList → okC (l.foldl (fun out c => out ++ (Builtin.Str.reprChar (reprQuote x) c).toArray) acc).toList := by
    intro l
    induction l with
    | nil => intro acc _ ha; exact ha
    | cons c l ih =>
      intro acc hl ha
      rw [List.foldl_cons]
      refine ih _ (fun y hy => hl y (by simp [hy])) ?_
      rw [Array.toList_append]
      exact ha.app (by simpa using reprChar_ok (q := reprQuote x) (hl c (by simp)))
  unfold reprText
  show okC (Array.push (Array.foldl (fun out c => out ++ (Builtin.Str.reprChar (reprQuote x) c).toArray) #[reprQuote x] x.cps) (reprQuote x)).toList
  rw [Array.toList_push, ← Array.foldl_toList]
  refine (key _ _ h fun y hy => ?_).app fun y hy => ?_
  · have : y = reprQuote x := by simpa using hy
    rw [this]; exact hq
  · rw [List.mem_singleton.mp hy]; exact hq
theorem textFrom_ok : ∀ (ts : List Str) (k : Nat) (acc : Str), (∀ t ∈ ts, okC t.cps.toList) → okC acc.cps.toList → okC (textFrom k acc ts).cps.toList
  | [], k, acc, _, ha => ha
  | t :: ts, k, acc, h, ha => by
    unfold textFrom
    refine textFrom_ok ts _ _ (fun u hu => h u (by simp [hu])) (okS_app (okS_app ha ?_) (h t (by simp)))
    split
    · unfold okC; decide +kernel
    · unfold okC; decide +kernel
theorem join_ok : ∀ (ts : List Str), (∀ t ∈ ts, okC t.cps.toList) → okC (Str.join ", " ts).cps.toList
  | [], _ => by unfold okC; decide +kernel
  | [t], h => h t (by simp)
  | t :: u :: ts, h => by
    show okC ((t ++ ", ") ++ Str.join ", " (u :: ts)).cps.toList
    exact okS_app (okS_app (h t (by simp)) (by unfold okC; decide +kernel)) (join_ok (u :: ts) fun x hx => h x (by simp [hx]))
mutual
theorem shown_ok : ∀ d : D, (toPy d).canLay0 = true → okC (toPy d).shown.cps.toList
  | .non, _ => by unfold toPy PyData.shown okC; decide +kernel
  | .bl b, _ => by unfold toPy PyData.shown okC; cases b <;> decide +kernel
  | .int i, _ => by
    unfold toPy PyData.shown
    show okC (Str.ofString (toString i)).cps.toList
    rw [ofString_digits, mkS_list]
    exact digits_ok i
  | .str s, h => by
    unfold toPy PyData.shown
    refine reprText_ok ?_
    unfold toPy PyData.canLay0 PyData.strOk at h
    rw [← Array.all_toList] at h
    intro c hc
    have := List.all_eq_true.mp h c hc
    simpa using this
  | .tup xs, h => by
    unfold toPy PyData.canLay0 at h
    unfold toPy PyData.shown tupleText
    refine okS_app (okS_app (by unfold okC; decide +kernel) (join_ok _ (shownAll_ok xs h))) ?_
    split
    · unfold okC; decide +kernel
    · unfold okC; decide +kernel
  | .lst xs, h => by
    unfold toPy PyData.canLay0 at h
    unfold toPy PyData.shown listText
    exact okS_app (textFrom_ok _ _ _ (shownAll_ok xs h) (by unfold okC; decide +kernel)) (by unfold okC; decide +kernel)
  | .lsk _, _ => by unfold toPy PyData.shown okC; decide +kernel
  | .obj _, _ => by unfold toPy PyData.shown okC; decide +kernel
  | .ty _, _ => by unfold toPy PyData.shown okC; decide +kernel
  | .gl _, _ => by unfold toPy PyData.shown okC; decide +kernel
  | .ins _ _ _, _ => by unfold toPy PyData.shown okC; decide +kernel
  | .dct _ _, _ => by unfold toPy PyData.shown okC; decide +kernel
theorem shownAll_ok : ∀ ds : List D, PyData.canLayAll0 (toPys ds) = true → ∀ t ∈ PyData.shownAll (toPys ds), okC t.cps.toList
  | [], _, t, ht => by unfold toPys PyData.shownAll at ht; cases ht
  | d :: ds, h, t, ht => by
    unfold toPys PyData.canLayAll0 at h
    rw [Bool.and_eq_true] at h
    unfold toPys PyData.shownAll at ht
    rcases List.mem_cons.mp ht with rfl | ht
    · exact shown_ok d h.1
    · exact shownAll_ok ds h.2 t ht
end
mutual
theorem no_dict : ∀ d : D, (toPy d).hasDict = false
  | .non => by unfold toPy PyData.hasDict; rfl
  | .bl b => by unfold toPy PyData.hasDict; rfl
  | .int i => by unfold toPy PyData.hasDict; rfl
  | .str s => by unfold toPy PyData.hasDict; rfl
  | .tup xs => by unfold toPy PyData.hasDict; exact no_dicts xs
  | .lst xs => by unfold toPy PyData.hasDict; exact no_dicts xs
  | .lsk _ => by unfold toPy PyData.hasDict; rfl
  | .obj _ => by unfold toPy PyData.hasDict; rfl
  | .ty _ => by unfold toPy PyData.hasDict; rfl
  | .gl _ => by unfold toPy PyData.hasDict; rfl
  | .ins _ _ _ => by unfold toPy PyData.hasDict; rfl
  | .dct _ _ => by unfold toPy PyData.hasDict; rfl
theorem no_dicts : ∀ ds : List D, PyData.hasDictAll (toPys ds) = false
  | [] => by unfold toPys PyData.hasDictAll; rfl
  | d :: ds => by unfold toPys PyData.hasDictAll; rw [no_dict d, no_dicts ds]; rfl
end
theorem bi_sound (hK : X.K = g.K) (hc : X.calm = true) (hgd : X.A.guards = some []) (hu : X.A.units + 66 < cLine) (fz : Bool) (b : Bi) : CallR X b.val (RCd g (biS fz b)) := by
  intro pins s σ H vs us Q I rv ⟨ds, S, Qd, rd, rs, h, k⟩
  unfold biS at h
  split at h
  · obtain ⟨v, rfl, r⟩ := rd.one
    obtain ⟨rfl, c⟩ := r.ofStr
    exact call_len_str pins s σ H _ us Q I rv ⟨_, rfl, by rw [mkS_len]; exact lim_size h.1, by rw [mkS_len]; exact k.here rs rd_int h.2⟩
  · obtain ⟨v, rfl, r⟩ := rd.one
    obtain ⟨xs, e, q⟩ := h
    obtain ⟨p, ws, rfl, sq, r'⟩ := r.seq rs e
    exact call_len_seq pins s σ H _ us Q I rv ⟨p, ws, rfl, hK ▸ sq, by rw [← r'.length]; exact k.here rs rd_int q⟩
  · obtain ⟨v, rfl, r⟩ := rd.one
    obtain ⟨bs, rfl, q⟩ := h
    obtain ⟨p, ws, rfl, sq, r'⟩ := r.lst
    rw [r'.bls] at sq
    exact cr_all hc pins s σ H _ us Q I rv ⟨p, bs, rfl, .inl sq, k.here rs rd_bl q⟩
  · obtain ⟨v, rfl, r⟩ := rd.one
    obtain ⟨bs, rfl, q⟩ := h
    obtain ⟨p, ws, rfl, sq, r'⟩ := r.lst
    rw [r'.bls] at sq
    exact cr_any hc pins s σ H _ us Q I rv ⟨p, bs, rfl, .inl sq, k.here rs rd_bl q⟩
  · obtain ⟨v, rfl, r⟩ := rd.one
    rw [r.ofInt] at rv
    exact call_abs pins s σ H _ us Q I rv ⟨_, rfl, k.here rs rd_int h⟩
  · obtain ⟨v, v', rfl, r, r'⟩ := rd.two
    rw [r.ofInt, r'.ofInt] at rv
    exact call_max2 hc pins s σ H _ us Q I rv ⟨_, _, rfl, k.here rs rd_int h⟩
  · obtain ⟨v, v', rfl, r, r'⟩ := rd.two
    rw [r.ofInt, r'.ofInt] at rv
    exact call_min2 hc pins s σ H _ us Q I rv ⟨_, _, rfl, k.here rs rd_int h⟩
  · obtain ⟨v, rfl, r⟩ := rd.one
    rw [r.ofInt] at rv
    exact call_int1 pins s σ H _ us Q I rv (.inl ⟨_, rfl, k.here rs rd_int h⟩)
  · obtain ⟨v, rfl, r⟩ := rd.one
    rw [r.ofBl] at rv
    exact call_int1 pins s σ H _ us Q I rv (.inr ⟨_, rfl, k.here rs rd_int h⟩)
  · obtain ⟨v, rfl, r⟩ := rd.one
    rw [r.ofInt] at rv
    refine call_str_int pins s σ H _ us Q I rv ⟨_, rfl, ?_, ?_⟩
    · have h1 := h.1
      by_cases z : Int.natAbs ‹Int› = 0
      · rw [z]; decide
      · exact Nat.lt_trans ((Nat.log2_lt z).mpr (Nat.lt_of_lt_of_le h1 (by decide : 10 ^ 9 ≤ 2 ^ 30))) (by decide)
    · rw [ofString_digits]
      exact k.here rs (rd_str (digits_ok _)) h.2
  · obtain ⟨v, rfl, r⟩ := rd.one
    obtain ⟨rfl, c⟩ := r.ofStr
    obtain ⟨u, rfl, t, rfl⟩ := vals1 rv
    refine PySem.call_tuple_str (I.ok.hd hc) _ t (fun h' tk acc hk hacc => ?_) (by rw [show (mkS _).cps.size = _ from mkS_len _]; exact lim_size h.1)
    have vv := vals_signs hacc
    have I1 : L2.Inv X pins σ H { s with heap := h', toks := tk } := I.kept (t' := tk) hk
    have hfr : H h'.objs.size = none := I1.hok.fresh (Nat.le_refl _)
    refine ⟨.ref h'.objs.size, upd H h'.objs.size (.tup _), I1.laid (t' := tk) (o := .tup _) (fun b o q => Heap.get?_push_of_some _ q) (Nat.le_refl _) ⟨?_, acc.toList, vv, ⟨_, Heap.get?_push_size _ rfl, rfl, 0, by simp⟩⟩, rfl, k.newT rs (rds_signs c) h.2 _ hfr⟩
    rw [List.length_map]
    exact lim_size h.1
  · obtain ⟨v, rfl, r⟩ := rd.one
    obtain ⟨xs, e, q⟩ := h
    obtain ⟨p, ws, rfl, sq, r'⟩ := r.seq rs e
    rename_i d hne
    cases d with
    | tup ys =>
      simp only [seqOf, Option.some.injEq] at e
      subst e
      obtain ⟨p', ws', e', sq', _⟩ := r.tup
      cases e'
      exact call_tuple_of pins s σ H _ us Q I rv ⟨p, ws', rfl, .inr ⟨hK ▸ sq', k.here rs r q⟩⟩
    | _ =>
      first
      | (cases e; done)
      | (obtain ⟨p', ws', e', sq', r''⟩ := r.seqL rs e (fun ys z => by cases z)
         cases e'
         exact call_tuple_of pins s σ H _ us Q I rv ⟨p, ws', rfl, .inl ⟨hK ▸ sq', fun l hl => k.newT rs r'' q l hl⟩⟩)
  · obtain ⟨v, rfl, r⟩ := rd.one
    obtain ⟨rfl, c⟩ := r.ofStr
    obtain ⟨u, rfl, t, rfl⟩ := vals1 rv
    refine PySem.call_list_str (I.ok.hd hc) _ t (fun h' tk acc c' hk hS hacc => ?_) (by rw [show (mkS _).cps.size = _ from mkS_len _]; exact lim_size h.1)
    have vv := vals_signs hacc
    refine ⟨.ref s.heap.objs.size, upd H s.heap.objs.size (.lst _), I.laid (t' := tk) (o := .lst _) hk (Nat.le_refl _) ⟨?_, acc.toList, c', vv, by simpa using hS⟩, rfl, k.newL rs (rds_signs c) h.2 _ (I.hok.fresh (Nat.le_refl _))⟩
    rw [List.length_map]
    exact lim_size h.1
  · obtain ⟨v, rfl, r⟩ := rd.one
    obtain ⟨xs, e, q⟩ := h
    obtain ⟨p, ws, rfl, sq, r'⟩ := r.seq rs e
    exact call_list_of pins s σ H _ us Q I rv ⟨p, ws, rfl, hK ▸ sq, fun l hl => k.newL rs r' q l hl⟩
  · obtain ⟨v, rfl, r⟩ := rd.one
    obtain ⟨⟨hC, hp, hdp, hsh, hsz⟩, q⟩ := h
    rename_i d
    obtain ⟨u, rfl, ru⟩ := vals1 rv
    have hv : ∃ a, v = .ref a := by
      cases d with
      | tup xs => obtain ⟨a, _, e, _⟩ := r.tup; exact ⟨a, e⟩
      | lst xs => obtain ⟨a, _, e, _⟩ := r.lst; exact ⟨a, e⟩
      | _ => cases hC
    obtain ⟨a, rfl⟩ := hv
    obtain rfl : u = Value.ref a := ru
    have hdp' := r.dp d _ hp
    rw [← hK] at hdp'
    obtain ⟨as, rr⟩ := Dp.reads I (toPy d) _ _ hdp' (rfl : RelV (.ref a) (.ref a))
    refine PySem.repr_of_reads' rr hsh (fun z => by rw [no_dict d] at z; cases z) hgd (by rw [depth_py d]; omega) (fun _ _ e => e) (fun h' t tk hk => ?_) ?_
    · refine ⟨.str (mkS (reprD d)), H, I.kept (t' := tk) hk, ⟨t, ?_⟩, k.here rs (rd_str (shown_ok d (r.lay d _ hp))) q⟩
      unfold reprD
      rw [mkS_eta]
    · exact lim_size hsz
  · obtain ⟨v, v', rfl, r, r'⟩ := rd.two
    rw [r.ofInt, r'.ofInt] at rv
    exact call_divmod pins s σ H _ us Q I rv ⟨_, _, rfl, ⟨h.1, h.2.1⟩, fun p hp => k.newT rs (RDs.cons rd_int (RDs.cons rd_int RDs.nil)) h.2.2 p hp⟩
  · exact h.elim
end
end G
/-! GR: rows turned about, rows put behind a list. -/
namespace G
open PySem PySem.Spec PyProof.Rows L2 AutoSeq1
/-! ### x.extend(row) -/
theorem ext_meets (T : String) (hT : T = "list" ∨ T = "tuple") (l b : Addr) (xs ys : Array Value) (n m : Nat) (dd : Option Addr) (sl : Array (Option Value)) (h1 : ¬(!xs.isEmpty && Builtin.List.listTooLong (xs.size + ys.size)) = true) (h2 : xs.size ≤ sizeLine) (h3 : xs.size + ys.size ≤ sizeLine + 1) :
    Meets (Builtin.«list.extend» ⟨[.ref l, .ref b], []⟩) (fun _ R s => s.heap.get? l = some { cls := .type "list", dict := none, data := .seq xs n, slots := #[] } ∧ s.heap.get? b = some ⟨.type T, dd, .seq ys m, sl⟩ ∧
      R (.ok (.ret Value.none)) { s with heap := s.heap.update l (Obj.mapSeq fun x => x ++ ys), toks := s.toks }) := by
  have h4 : (xs ++ ys).size ≤ sizeLine + 1 := by rw [Array.size_append]; exact h3
  rcases hT with rfl | rfl
  · refine .of_wp fun prog w A R s q => ?_
    obtain ⟨hp, gs, dr, tk, os⟩ := s
    obtain ⟨q1, q2, q3⟩ := q
    have f2 := AutoSeq1.sub_tuple_tuple; have f3 := AutoSeq1.sub_list_list; have f4 := AutoSeq1.sub_tuple_list; have f5 := AutoSeq1.sub_list_tuple
    wp_walk using (wpAny_updateSeq q1 rfl (hz := h2) (_hz' := h4)), wpAny_loadPart' q1, wpAny_loadPart' q2
    exact ⟨_, rfl, q3⟩
  · refine .of_wp fun prog w A R s q => ?_
    obtain ⟨hp, gs, dr, tk, os⟩ := s
    obtain ⟨q1, q2, q3⟩ := q
    have f2 := AutoSeq1.sub_tuple_tuple; have f3 := AutoSeq1.sub_list_list; have f4 := AutoSeq1.sub_tuple_list; have f5 := AutoSeq1.sub_list_tuple
    wp_walk using (wpAny_updateSeq q1 rfl (hz := h2) (_hz' := h4)), wpAny_loadPart' q1, wpAny_loadPart' q2
    exact ⟨_, rfl, q3⟩
section
variable {X : Cx} {g : Gx} {S S0 S1 S' : Sto} {H H0 H1 H' : Hp} {ρ : Sl} {σ : L2.St}
def rExtA (K : PySem.W.Frag) : V → List V → Hp → VK → Prop := fun x vs H Q => ∃ l b xs zs, x = .ref l ∧ vs = [.ref b] ∧ H l = some (.lst xs) ∧ (SqL K H b zs ∨ SqT K H b zs) ∧ xs.length + zs.length ≤ sizeLine ∧ Q .non (upd H l (.lst (xs ++ zs)))
theorem mt_ext : MtR X "list.extend" (rExtA X.K) := by
  intro pins s σ H x vs v us Q I rx rv q
  obtain ⟨l, b, xs, zs, rfl, rfl, hl, hb, hz, q⟩ := q
  cases rx
  obtain ⟨u, rfl, ru⟩ := rv.one
  cases ru
  obtain ⟨z, its, n, r, e1, e2⟩ := I.lstM hl
  have go : ∀ (T : String) (its2 : List Value) (m : Nat) (dd : Option Addr) (sl : Array (Option Value)), (T = "list" ∨ T = "tuple") → Vals zs its2 → s.heap.get? b = some ⟨.type T, dd, .seq its2.toArray m, sl⟩ → wpAny (model X.prog X.w) X.A (call (.builtin "list.extend") [.ref l, .ref b]) (EP X pins σ Q) X.xe s := by
    intro T its2 m dd sl hT r2 e3
    have l2 := r2.length
    have sz : its.toArray.size + its2.toArray.size ≤ sizeLine := by simp only [List.size_toArray]; omega
    have lg : ¬ (!its.toArray.isEmpty && Builtin.List.listTooLong (its.toArray.size + its2.toArray.size)) = true := by rw [notLongL sz, Bool.and_false]; exact Bool.false_ne_true
    refine call_meets PySem.F.slot_list_extend ⟨_, e2, rfl⟩ PySem.F.entry_list_extend (PySem.F.args_list_extend_2 _ _) (ext_meets T hT l b its.toArray its2.toArray n m dd sl lg (by simp only [List.size_toArray]; omega) (by omega)) ⟨e2, e3, ?_⟩
    exact ⟨.non, _, I.lset (its' := its ++ its2) hl e2 (by simp) (r.append r2) (by simp only [List.length_append]; omega), rfl, q⟩
  rcases hb with hb | hb
  · obtain ⟨its2, r2, ⟨⟨oc, od, odat, osl⟩, m, e3, c1, c2, c3⟩, _⟩ := I.list hb
    cases c1
    cases c2
    cases c3
    exact go "list" its2 m _ _ (.inl rfl) r2 e3
  · obtain ⟨its2, r2, ⟨⟨oc, od, odat, osl⟩, e3, c1, m, c3⟩, _⟩ := I.tuple hb
    cases c1
    cases c3
    exact go "tuple" its2 m _ _ (.inr rfl) r2 e3
/-! ### row[::-1] -/
theorem turn_pick (xs : Array Value) : ((List.range xs.size).filterMap fun (k : Nat) => xs[((xs.size : Int) - 1 + (k : Int) * (-1)).toNat]?).toArray = xs.toList.reverse.toArray := by
  rw [← PySem.W.krv_pick]
  unfold slicePick
  rw [PySem.W.krv_bounds]
  show _ = ((sliceRange ((xs.size : Int) - 1) (-1) (-1)).filterMap (xs[·]?)).toArray
  rw [PySem.W.krv_sliceRange, List.filterMap_map]
  congr 1
  have e : ∀ l : List Nat, (∀ k ∈ l, k < xs.size) → l.filterMap (fun (k : Nat) => xs[((xs.size : Int) - 1 + (k : Int) * (-1)).toNat]?) = l.filterMap ((fun x => xs[x]?) ∘ fun k => xs.size - 1 - k) := by
    intro l
    induction l with
    | nil => intro _; rfl
    | cons a l ih =>
      intro h
      have ha := h a (by simp)
      have e1 : ((xs.size : Int) - 1 + (a : Int) * (-1)).toNat = xs.size - 1 - a := by omega
      rw [List.filterMap_cons, List.filterMap_cons, ih fun k hk => h k (by simp [hk]), e1]
      rfl
  exact e _ fun k hk => List.mem_range.mp hk
theorem turn_tup {prog : Program} {w : World} {A : Around} {E : Value → Shared → Prop} {s : Shared} {t sl : Addr} {xs : Array Value} {vl vu vs : Value} {Q : Value → Shared → Prop} (ht : IsTup s.heap t xs) (hs : s.heap.IsSliceOf sl vl vu vs) (pl : IsPart vl none) (pu : IsPart vu none) (ps : IsPart vs (some (-1)))
    (q : Q (.ref s.heap.objs.size) { s with heap := s.heap.push { cls := .type "tuple", data := .seq xs.toList.reverse.toArray } }) (hz : xs.size ≤ sizeLine) : wpAny (model prog w) A (getItem (.ref t) (.ref sl)) Q E s := by
  have sz : sizeOk (.seq xs.toList.reverse.toArray) := by
    show xs.toList.reverse.toArray.size ≤ sizeLine
    simpa using hz
  obtain ⟨o, e1, e2, e3⟩ := id hs
  have ty : s.TypeIs (.ref sl) "slice" := ⟨o, e1, e2⟩
  unfold getItem
  try with_reducible refine wpAny_holding ?_
  first | refine wpAny_bind (wpAny_pure ?_) | skip
  refine wpAny_bind (wpAny_sequenceKey ht.typeIs (by decide) ?_)
  refine wpAny_bind (wpAny_callSpecial?_slot (name := Str.ofString "__getitem__") ht.typeIs PyProof.Rows.slot_tuple_getitem (wpAny_call_entry PyProof.Rows.slot_tuple_getitem ht.typeIs entry_tuple_getitem ?_ (args_tuple_getitem _ _)))
  show wpAny _ _ (Builtin.Tuple.tupleItemsOf (.ref t) >>= _) _ _ s
  refine wpAny_bind (PyProof.Rows.tupleItemsOf_ ht (wpAny_bind (wpAny_typeOf ty ?_)))
  rw [if_pos (by decide)]
  have ap : ∀ {Q' : Int × Int × Nat → Shared → Prop}, Q' ((xs.size : Int) - 1, -1, xs.size) s → ∀ (A : Around) (E : Value → Shared → Prop), wpAny (model prog w) A (Builtin.Slice.sliceApplied (.ref sl) (pure (xs.size : Int))) Q' E s := by
    intro Q' q' A E
    unfold Builtin.Slice.sliceApplied Builtin.Slice.sliceFields
    refine wpAny_bind (wpAny_bind (wpAny_field e1 e3 (x := vl) rfl (wpAny_bind (wpAny_field e1 e3 (x := vu) rfl (wpAny_bind (wpAny_field e1 e3 (x := vs) rfl (wpAny_pure ?_)))))))
    refine wpAny_bind (HT.slicePart_ ps ?_)
    show wpAny _ _ (if ((-1 : Int) == 0) = true then _ else _) _ _ s
    rw [if_neg (by decide)]
    refine wpAny_bind (HT.slicePart_ pl (wpAny_bind (HT.slicePart_ pu (wpAny_bind (wpAny_pure ?_)))))
    show wpAny _ _ (match Builtin.Slice.sliceAdjust none none (-1) (xs.size : Int) with | (lo, hi) => pure (lo, (-1 : Int), Builtin.Slice.slicePlaces lo hi (-1))) _ _ s
    have ad : Builtin.Slice.sliceAdjust none none (-1) (xs.size : Int) = ((xs.size : Int) - 1, -1) := by
      simp [Builtin.Slice.sliceAdjust]
    rw [ad]
    have pc : Builtin.Slice.slicePlaces ((xs.size : Int) - 1) (-1) (-1) = xs.size := by
      unfold Builtin.Slice.slicePlaces
      simp
      omega
    show wpAny _ _ (pure ((xs.size : Int) - 1, (-1 : Int), Builtin.Slice.slicePlaces ((xs.size : Int) - 1) (-1) (-1))) _ _ s
    rw [pc]
    exact wpAny_pure q'
  refine wpAny_bind (ap ?_ _ _)
  show wpAny _ _ (if (((xs.size : Int) - 1) == 0 && (-1 : Int) == 1 && xs.size == xs.size) = true then _ else _) _ _ s
  rw [if_neg (by simp), turn_pick]
  first
    | exact wpAny_bind (m := Builtin.Tuple.tupleExact _) (wpAny_newObj_type (wpAny_pure ⟨_, rfl, wpAny_pure q⟩) sz)
    | exact wpAny_bind (m := Builtin.Tuple.tupleExact _) (wpAny_newObj_type (wpAny_bind (wpAny_pure (wpAny_pure ⟨_, rfl, wpAny_pure q⟩))) sz)
    | exact wpAny_bind (wpAny_bind (m := Builtin.Tuple.tupleExact _) (wpAny_newObj_type (wpAny_pure (wpAny_pure ⟨_, rfl, wpAny_pure q⟩)) sz))
    | exact wpAny_bind (wpAny_bind (m := Builtin.Tuple.tupleExact _) (wpAny_newObj_type (wpAny_pure ⟨_, rfl, wpAny_pure q⟩) sz))
def tTurn (K : PySem.W.Frag) (te : TE) : TE := fun σ H Q => te σ H fun x H1 => ∃ a xs, x = .ref a ∧ (SqL K H1 a xs ∧ (∀ p, H1 p = none → Q (.ref p) (upd H1 p (.lst xs.reverse))) ∨ SqT K H1 a xs ∧ ∀ p, H1 p = none → Q (.ref p) (upd H1 p (.tup xs.reverse)))
theorem pe_turn {e : Expr} {te : TE} {k : Nat} {p1 p2 p3 pos : Pos} (he : PE X e te) : PE X (.Subscript e (.Slice none none (some (.UnaryOp .USub (.Constant (.int 1) k p1) p2)) p3) pos) (tTurn X.K te) := ⟨fun pins s σ H Q I h => by
  refine Subscript_ (thn (he.run pins s σ H _ I h) fun v s1 ⟨x, H1, I1, r1, a, xs, ex, q⟩ => ?_)
  subst ex
  cases r1
  have st : PO X (some (.UnaryOp .USub (.Constant (.int 1) k p1) p2)) (tPart (tUn (rU fun i => .int (-i)) (tC (.int 1)))) := po_some (pe_un un_neg pe_int)
  refine wpAny_Slice (thn (po_none.run pins s1 σ H1 (fun o H2 => o = none ∧ H2 = H1) I1 ⟨rfl, rfl⟩) fun vl s2 ⟨l, H2, I2, pl, el, e2⟩ => thn (po_none.run pins s2 σ H2 (fun o H3 => o = none ∧ H3 = H2) I2 ⟨rfl, rfl⟩) fun vu s3 ⟨u, H3, I3, pu, eu, e3⟩ => thn (st.run pins s3 σ H3 (fun o H4 => o = some (-1) ∧ H4 = H3) I3 ⟨1, rfl, -1, rfl, rfl, rfl⟩) fun vs s4 ⟨o, H4, I4, ps, eo, e4⟩ => ?_)
  subst el eu eo e4 e3 e2
  have I5 := I4.kept (h' := s4.heap.push { cls := .type "slice", data := .fields #[vl, vu, vs] }) (t' := s4.toks) fun b ob z => Heap.get?_push_of_some _ z
  show wpAny (model X.prog X.w) X.A (subscriptTail e (.Slice none none (some (.UnaryOp .USub (.Constant (.int 1) k p1) p2)) p3) (.ref a) (.ref s4.heap.objs.size)) (EP X pins σ Q) X.xe { s4 with heap := s4.heap.push { cls := .type "slice", data := .fields #[vl, vu, vs] } }
  rcases q with ⟨hx, q⟩ | ⟨hx, q⟩
  · obtain ⟨its, r, ht, hz⟩ := I5.list hx
    have ln := r.length
    refine tail_any (ops := [.ref a, .ref s4.heap.objs.size]) ht.isList.typeIs PySem.slot_list_getitem.lookup (wpAny_getItem_list_slice ht.isList (Heap.IsSliceOf.new _ vl vu vs) pl pu ps (by decide) ?_ (by rw [List.size_toArray]; omega)) (by with_unfolding_all rfl)
    rw [PySem.W.krv_pick]
    exact ⟨.ref _, _, I5.laid (t' := s4.toks) (o := .lst xs.reverse) (fun b ob z => Heap.get?_push_of_some _ z) (Nat.le_refl _) ⟨by rw [List.length_reverse]; exact hz, _, 0, r.reverse, Heap.get?_push_size _ rfl⟩, rfl, q _ (I5.hok.fresh (Nat.le_refl _))⟩
  · obtain ⟨its, r, ht, hz⟩ := I5.tuple hx
    have ln := r.length
    refine tail_any (ops := [.ref a, .ref s4.heap.objs.size]) ht.typeIs PyProof.Rows.slot_tuple_getitem.lookup (turn_tup ht (Heap.IsSliceOf.new _ vl vu vs) pl pu ps ?_ (by rw [List.size_toArray]; omega)) (by with_unfolding_all rfl)
    exact ⟨.ref _, _, I5.laid (t' := s4.toks) (o := .tup xs.reverse) (fun b ob z => Heap.get?_push_of_some _ z) (Nat.le_refl _) ⟨by rw [List.length_reverse]; exact hz, _, r.reverse, IsTup.new _ _⟩, rfl, q _ (I5.hok.fresh (Nat.le_refl _))⟩⟩
end
end G
/-! GC: sets that a comprehension lays, their members ints. -/
namespace G
open PySem PySem.Spec PyProof.Rows L2
open PpSet (newSet_ok compLoopS_any codeAny_compStart_set)
section
variable {X : Cx}
/-- {elt for target in iter if ..}: N the new set, its members S, n of them -/
def tSi (w : World) (wi : TI) (g : TG) (tt : TT) (te : TE) (vs : List Nat) : TE := fun σ H Q => wi σ H fun J H1 => ∀ N, H1 N = none → ∃ W : Nat → Nat → Hp → Prop, (∃ m, W 0 m (upd H1 N (SetO w N (fun _ => false) 0))) ∧ ∀ i m H, W i m H →
  (J.stop i H ∧ Q (.ref N) H) ∨ (J.go i H ∧ ∃ Nx : Hp → Prop, (∀ H', Nx H' → ∃ m', m' < m ∧ W (i + 1) m' H') ∧ ∀ x H', J.yld i H x H' → g x (wipe σ vs) H' fun σ2 H2 => wipe σ2 vs = wipe σ vs ∧ tt σ2 H2 fun b H3 =>
    if b = true then te σ2 H3 fun y H4 => ∃ (c : Int) (S : Int → Bool) (n : Nat), y = .int c ∧ H4 N = some (SetO w N S n) ∧ n + 1 < scanBound ∧ Nx (upd H4 N (SetO w N (fun j => S j || decide (j = c)) (if S c = true then n else n + 1))) else Nx H3)
theorem si_core {pins : List (Addr × Obj)} {s : Shared} {σ : L2.St} {H : Hp} {Q : VK} {elt tg it0 : Expr} {ifs : List Expr} {scope : Scope} {own : List (PySem.Str × Nat)} {pos pos' : Pos} {wi : TI} {g : TG} {tt : TT} {te : TE} {Qf : Value → Shared → Prop}
    (hc : X.calm = true) (hN : X.N.Nodup) (I : Inv X pins σ H s) (hi : PI X tg it0 wi) (ok : BlkOk X.N X.env.scope scope own)
    (hg : ∀ (s : Shared) (H : Hp) (C : Addr) (cl : List (PySem.Str × Addr)) (fp : List Addr), PG (X.blk s H scope (compEnvC scope cl C X.env) fp) tg g) (ht : ∀ (s : Shared) (H : Hp) (C : Addr) (cl : List (PySem.Str × Addr)) (fp : List Addr), PTs (X.blk s H scope (compEnvC scope cl C X.env) fp) ifs tt)
    (he : ∀ (s : Shared) (H : Hp) (C : Addr) (cl : List (PySem.Str × Addr)) (fp : List Addr), PE (X.blk s H scope (compEnvC scope cl C X.env) fp) elt te) (hs : ∀ x, foldedSetIterable it0 X.env x = pure x) (h : tSi X.w wi g tt te (own.map (·.2)) σ H Q)
    (fine : ∀ N C s' m H', Inv X pins σ H' s' → Q (.ref N) H' → s'.heap.Ns C m → FpOk X pins H' C → compPost (model X.prog X.w) X.A X.xe none Qf (.ref N) C (.ok .next) s') :
    wpAny (model X.prog X.w) X.A (comprehension (.SetComp elt [⟨tg, it0, ifs, 0⟩] scope pos) scope X.env pos' (newSet (.type "set")) false (eval it0 X.env) none) Qf X.xe s := by
  refine wpAny_comprehension_free (use := none) rfl hs (closure_ok fun y hy e => (ok.free y hy e).elim (fun k => I.ok.has _ (.inl k)) fun k => I.ok.has _ (.inr k)) ok.kind (fun y hy e => by rw [ok.uniq y hy, e]) (thn (hi.run pins s σ H _ I h) fun xv u1 hx => thn hx fun itv u2 z2 => ?_)
  obtain ⟨it, fp, tn, J, G2, e, J2, T, w2, f2, q⟩ := z2
  subst e
  refine newSet_ok (newEnv_comp ?_)
  have nN : G2 u2.heap.objs.size = none := J2.hok.fresh (Nat.le_refl _)
  obtain ⟨W, ⟨m0, w0⟩, turn⟩ := q _ nN
  have J3 := J2.laid (t' := u2.toks) (o := SetO X.w u2.heap.objs.size (fun _ => false) 0) (h' := u2.heap.push { cls := .type "set", dict := none, data := .set #[] 0 (.fresh 0 0 (!X.w.params.followText "set-order")) }) (fun b o e => Heap.get?_push_of_some _ e) (Nat.le_refl _) (setO_new (setR_fresh X.w))
  have e3 : ({ u2 with heap := u2.heap.push { cls := .type "set", dict := none, data := .set #[] 0 (.fresh 0 0 (!X.w.params.followText "set-order")) } } : Shared).heap = u2.heap.push { cls := .type "set", dict := none, data := .set #[] 0 (.fresh 0 0 (!X.w.params.followText "set-order")) } := rfl
  generalize ({ u2 with heap := u2.heap.push { cls := .type "set", dict := none, data := .set #[] 0 (.fresh 0 0 (!X.w.params.followText "set-order")) } } : Shared) = u3 at J3 e3 ⊢
  have f3 : ∀ b ∈ fp, FpOk X pins (upd G2 u2.heap.objs.size (SetO X.w u2.heap.objs.size (fun _ => false) 0)) b ∧ b < u3.heap.objs.size := fun b hb => by
    have lt : b < u2.heap.objs.size := let ⟨_, e, _⟩ := T.obj _ _ w2 b hb; Heap.lt_size e
    exact ⟨⟨by rw [upd_ne (Nat.ne_of_lt lt)]; exact (f2 b hb).1, (f2 b hb).2⟩, by rw [e3, Heap.size_push]; exact Nat.lt_succ_of_lt lt⟩
  have w3 : tn 0 u3.heap := T.keep _ _ _ w2 fun b _ o e => e3 ▸ Heap.get?_push_of_some _ e
  generalize u2.heap.objs.size = N at J3 f3 w0 turn nN ⊢
  generalize eG : upd G2 N (SetO X.w N (fun _ => false) 0) = G3 at J3 f3 w0
  have J4 := block_start J3 ok hN f3
  have pg := hg u3 G3 u3.heap.objs.size (cellsFrom (u3.heap.objs.size + 1) scope.names (cloFrom X.env.cells scope.names [])) fp
  have pt := ht u3 G3 u3.heap.objs.size (cellsFrom (u3.heap.objs.size + 1) scope.names (cloFrom X.env.cells scope.names [])) fp
  have pe := he u3 G3 u3.heap.objs.size (cellsFrom (u3.heap.objs.size + 1) scope.names (cloFrom X.env.cells scope.names [])) fp
  show codeAny _ _ (.compStart (.SetComp elt [⟨tg, it0, ifs, 0⟩] scope pos) 0 (.ref it) (.ref N) (compEnvC scope (cellsFrom (u3.heap.objs.size + 1) scope.names (cloFrom X.env.cells scope.names [])) u3.heap.objs.size X.env)) (compPost (model X.prog X.w) X.A X.xe none Qf (.ref N) u3.heap.objs.size) { u3 with heap := pushCells (u3.heap.push { cls := .type "dict", data := .dict #[] }) scope.names }
  generalize ec : compEnvC scope (cellsFrom (u3.heap.objs.size + 1) scope.names (cloFrom X.env.cells scope.names [])) u3.heap.objs.size X.env = ce at J4 pg pt pe ⊢
  have lc : ce.locals = u3.heap.objs.size := by subst ec; rfl
  have k4 : ∀ b o, u3.heap.get? b = some o → (pushCells (u3.heap.push { cls := .type "dict", data := .dict #[] }) scope.names).get? b = some o := fun b o e => pushCells_keeps _ _ _ _ (Heap.get?_push_of_some _ e)
  have w4 : tn 0 ({ u3 with heap := pushCells (u3.heap.push { cls := .type "dict", data := .dict #[] }) scope.names } : Shared).heap := T.keep _ _ _ w3 fun b _ o e => k4 b o e
  generalize ({ u3 with heap := pushCells (u3.heap.push { cls := .type "dict", data := .dict #[] }) scope.names } : Shared) = u4 at J4 w4 ⊢
  have free : ∀ b ∈ fp, G3 b = none := fun b hb => (f3 b hb).1.1
  have sta : ∀ {σ' : L2.St} {H' : Hp} {s' : Shared}, Inv (X.blk u3 G3 scope ce fp) [] σ' H' s' → (∀ b ∈ fp, H' b = none) → ∀ b ∈ fp, FpOk (X.blk u3 G3 scope ce fp) [] H' b := fun J' hn b hb =>
    ⟨hn b hb, (J'.ok.exf b hb).1, J'.ok.exfs b hb, .inl hb, fun x c e => (J'.ok.exf b hb).2 x c e, fun p hp => absurd (show p ∈ ([] : List (Addr × Obj)) from by simpa using hp) (by simp)⟩
  have loop : codeAny (model X.prog X.w) X.A (.compLoop (.SetComp elt [⟨tg, it0, ifs, 0⟩] scope pos) 0 (.ref it) (.ref N) ce) (compPost (model X.prog X.w) X.A X.xe none Qf (.ref N) u3.heap.objs.size) u4 := by
    refine compLoopS_any (fun n t => ∃ i F, Inv (X.blk u3 G3 scope ce fp) [] (wipe σ (own.map (·.2))) F t ∧ tn i t.heap ∧ (∀ b ∈ fp, F b = none) ∧ W i n F) ?_ m0 ⟨0, G3, J4, w4, free, w0⟩
    rintro n u5 ⟨i, G5, J5, w5, n5, v5⟩
    rcases turn i n G5 v5 with ⟨stop, z⟩ | ⟨go, Nx, less, step⟩
    · refine thnF (T.done (X.blk u3 G3 scope ce fp) rfl rfl rfl hc i [] u5 _ G5 (fun _ _ => False) J5 (sta J5 n5) w5 stop) fun r u6 ⟨er, J6⟩ => ?_
      subst er
      obtain ⟨m, ns, _⟩ := J6.loc
      have ns : u6.heap.Ns u3.heap.objs.size m := lc ▸ (show u6.heap.Ns ce.locals m from ns)
      have nc : G5 u3.heap.objs.size = none := lc ▸ (show G5 ce.locals = none from J6.free)
      exact fine N _ u6 m G5 (J3.call' (ch := fp) J6.os J6.base J6.hok J6.bare fun b hb => let ⟨_, a1, _, a2, a3, a4⟩ := (f3 b hb).1; ⟨a2, a1, a3, a4⟩) z ns (J3.fpOk (Nat.le_refl _) nc)
    · refine thnF (T.item (X.blk u3 G3 scope ce fp) rfl rfl rfl hc i [] u5 _ G5 (fun _ _ => False) J5 (sta J5 n5) w5 go) fun r u6 ⟨u, er, z6⟩ => ?_
      subst er
      refine thnF z6 fun _ u7 ⟨x, G7, J7, r7, y7, w7, n7⟩ => ?_
      refine thnF (pg.run _ u7 _ G7 x u _ (J7.pinned (sta J7 n7) (T.obj _ _ w7)) r7 (step x G7 y7)) fun _ u8 ⟨σ8, G8, J8, wp8, q8⟩ => thnF (pt.run _ u8 σ8 G8 _ J8 q8) fun b u9 ⟨G9, J9, q9⟩ => ?_
      have fin : ∀ {t : Shared} {F : Hp}, Inv (X.blk u3 G3 scope ce fp) ([] ++ pinsAt fp u7.heap) σ8 F t → Nx F → ∃ m, m < n ∧ ∃ i F, Inv (X.blk u3 G3 scope ce fp) [] (wipe σ (own.map (·.2))) F t ∧ tn i t.heap ∧ (∀ b ∈ fp, F b = none) ∧ W i m F := fun {t F} J' nx => by
        obtain ⟨m', lt, v'⟩ := less F nx
        have pin : ∀ b ∈ fp, ∀ o, u7.heap.get? b = some o → t.heap.get? b = some o ∧ F b = none := fun b hb o e => let z := J'.pin (b, o) (List.mem_append_right _ (List.mem_append_right _ (mem_pinsAt hb e))); ⟨z.1, z.2.1⟩
        exact ⟨m', lt, i + 1, F, (J'.unpinned (pins := [])).weak (by rw [← wp8, wipe_length]) (fun j v e => (wipe_some (by rw [← wp8] at e; exact e)).1), T.keep _ _ _ w7 fun b hb o e => (pin b hb o e).1, fun b hb => let ⟨o, e, _⟩ := T.obj _ _ w7 b hb; (pin b hb o e).2, v'⟩
      cases b with
      | false => exact fin J9 (by simpa using q9)
      | true =>
        simp only [if_true] at q9 ⊢
        refine thnF (pe.run _ u9 σ8 G9 _ J9 q9) fun z u10 ⟨yv, G10, J10, r10, k, S0, n0, ey, at10, rm, nx⟩ => ?_
        subst ey
        exact thnF (mt_sadd (X := X.blk u3 G3 scope ce fp) _ u10 σ8 G10 (.ref N) [.int k] (.ref N) [z] (fun v F => Nx F) J10 rfl (.cons r10 .nil) ⟨N, k, S0, n0, rfl, rfl, at10, rm, nx⟩) fun v t ⟨_, F, J', _, nx'⟩ => fin J' nx'
  exact codeAny_compStart_set loop (T.self X.A 0 _ _ _ w4 loop)
end
end G
/-! G5: methods; the match of the small syntax with the program's text; contexts. -/
namespace G
open PySem L2
section
variable {X : Cx} {g : Gx} {S S0 S1 S' : Sto} {H H0 H1 H' : Hp} {ρ : Sl} {σ : L2.St}
def RMd (g : Gx) (o : D → List D → Sto → QV → Prop) : V → List V → Hp → VK → Prop := fun x vs H Q => ∃ d ds S Qd, RD g S H d x ∧ RDs g S H ds vs ∧ RS g S H ∧ o d ds S Qd ∧ Cont g S H Qd Q
theorem joinL_jn (sep : List Nat) : ∀ ss : List (List Nat), TL.joinL sep ss = jn sep ss
  | [] => rfl
  | [p] => rfl
  | p :: q :: r => by
    show p ++ (sep ++ TL.joinL sep (q :: r)) = p ++ (sep ++ jn sep (q :: r))
    rw [joinL_jn sep (q :: r)]
theorem jn_tl (sep : List Nat) (ss : List (List Nat)) : (Txt.join (mkS sep) (ss.map mkS)).cps.toList = jn sep ss := by
  rw [TL.join_eq]
  have e := TL.tl_join (mkS sep) (ss.map mkS)
  have e2 : ∀ s : List Nat, TL.tl (mkS s) = s := mkS_list
  show TL.tl _ = _
  rw [e, e2, List.map_map, show (TL.tl ∘ mkS) = id from funext e2, List.map_id, joinL_jn]
theorem jn_ok {sep : List Nat} {P : Nat → Prop} (hs : ∀ c ∈ sep, P c) : ∀ {ss : List (List Nat)}, (∀ s ∈ ss, ∀ c ∈ s, P c) → ∀ c ∈ jn sep ss, P c
  | [], _, c, hc => by simp [jn] at hc
  | [p], h, c, hc => h p (by simp) c hc
  | p :: q :: r, h, c, hc => by
    unfold jn at hc
    rcases List.mem_append.mp hc with hc | hc
    · exact h p (by simp) c hc
    · rcases List.mem_append.mp hc with hc | hc
      · exact hs c hc
      · exact jn_ok hs (fun s hs' => h s (by simp [hs'])) c hc
theorem RS.put (rs : RS g S H) {a : Addr} {xs ys : List D} {vs us : List V} (hs : S a = some (.lst xs)) (h : H a = some (.lst vs)) (r : RDs g S H ys us) :
    RS g (S.set a (.lst ys)) (upd H a (.lst us)) ∧ Step S H (S.set a (.lst ys)) (upd H a (.lst us)) := by
  have st : Step S H (S.set a (.lst ys)) (upd H a (.lst us)) := Step.write (.inl (by rw [hs]; exact fun z => nomatch z))
  exact ⟨rs.write (.inl (by rw [hs]; exact fun z => nomatch z)) st ⟨us, upd_same, r.mono st⟩ (fun b e => by rw [h] at e; cases e), st⟩
theorem me_sound (hK : X.K = g.K) (m : Me) : MtR X m.id (RMd g (meS m)) := by
  intro pins s σ H x vs v us Q I rx rv ⟨d, ds, S, Qd, r1, r2, rs, h, k⟩
  unfold meS at h
  split at h
  · obtain ⟨xs, ss, e, rfl, hz, q⟩ := h
    obtain ⟨rfl, c0⟩ := r1.ofStr
    obtain ⟨v', rfl, r⟩ := r2.one
    obtain ⟨p, ws, rfl, sq, r'⟩ := r.seq rs e
    obtain ⟨e', c⟩ := r'.strs
    subst e'
    refine mt_join pins s σ H _ _ v us Q I rx rv ⟨_, p, _, rfl, rfl, hK ▸ sq, ?_, ?_⟩
    · rw [List.map_map, List.length_map, mkS_len, show ((fun x => x.length) ∘ mkS) = List.length from funext mkS_len]
      exact lim_size hz
    · rw [← mkS_eta (Txt.join _ _), jn_tl]
      exact k.here rs (rd_str (jn_ok c0 c)) q
  · obtain ⟨xs, hs, hz, q⟩ := h
    rw [r1.ofObj] at rx
    obtain ⟨v', rfl, r⟩ := r2.one
    obtain ⟨ws, hw, r'⟩ := (rs.1 _ _ hs).2
    have pt := rs.put hs hw (r'.append (RDs.cons r RDs.nil))
    exact mt_append pins s σ H _ _ v us Q I rx rv ⟨_, ws, v', rfl, rfl, hw, by rw [← r'.length]; exact lim_size' hz, k _ _ _ _ rd_non pt.1 pt.2 q⟩
  · obtain ⟨xs, ys, hs, e, hz, q⟩ := h
    rw [r1.ofObj] at rx
    obtain ⟨v', rfl, r⟩ := r2.one
    obtain ⟨p, zs, rfl, sq, r3⟩ := r.seq rs e
    obtain ⟨ws, hw, r'⟩ := (rs.1 _ _ hs).2
    have pt := rs.put hs hw (r'.append r3)
    exact mt_ext pins s σ H _ _ v us Q I rx rv ⟨_, p, ws, zs, rfl, rfl, hw, hK ▸ sq, by rw [← r'.length, ← r3.length]; exact lim_size hz, k _ _ _ _ rd_non pt.1 pt.2 q⟩
  · exact h.elim
end
/-! ### the match -/
structure Sc where
  N : List Str
  sc : Scope
  fn : Str → Bool
/-- within a comprehension -/
def Sc.blk (c : Sc) (scope : Scope) : Sc := ⟨c.N, relS scope c.sc, fun x => scope.names.lookup x == some .cell⟩
def Sc.kd (c : Sc) (x : Str) : Option NameKind := c.sc.names.lookup x
def visB : Option NameKind → Bool
  | some .local => true
  | some .cell => true
  | some .free => true
  | _ => false
def locB : Option NameKind → Bool
  | some .local => true
  | some .cell => true
  | _ => false
def glB : Option NameKind → Bool
  | some .globalImplicit => true
  | _ => false
def noStar : Expr → Bool
  | .Starred _ _ => false
  | _ => true
def plainSlice : Expr → Bool
  | .Slice _ _ _ _ => false
  | _ => true
def noSet : Expr → Bool
  | .Set _ _ _ => false
  | _ => true
/-- a thing whose attribute is asked: no super() -/
def noSup : Expr → Bool
  | .Call (.Name _ _) [] [] _ => false
  | _ => true
def opB : Operator → Operator → Bool
  | .Add, .Add | .Sub, .Sub | .Mult, .Mult | .FloorDiv, .FloorDiv | .Mod, .Mod | .Pow, .Pow => true
  | _, _ => false
def cmB : CmpOp → CmpOp → Bool
  | .Eq, .Eq | .NotEq, .NotEq | .Lt, .Lt | .LtE, .LtE | .Gt, .Gt | .GtE, .GtE | .Is, .Is | .IsNot, .IsNot | .In, .In | .NotIn, .NotIn => true
  | _, _ => false
theorem opB_eq {a b : Operator} (h : opB a b = true) : a = b := by cases a <;> cases b <;> first | rfl | cases h
theorem cmB_eq {a b : CmpOp} (h : cmB a b = true) : a = b := by cases a <;> cases b <;> first | rfl | cases h
def boB : BoolOp → BoolOp → Bool
  | .And, .And | .Or, .Or => true
  | _, _ => false
theorem boB_eq {a b : BoolOp} (h : boB a b = true) : a = b := by cases a <;> cases b <;> first | rfl | cases h
def mC : D → Const → Bool
  | .non, .none => true
  | .bl a, .bool b => a == b
  | .int a, .int b => a == b
  | .str s, .str x => decide (mkS s = x) && s.all fun c => decide (c < 0x110000)
  | _, _ => false
/-- the names of a comprehension's own -/
def ownOf (N : List Str) (is : List Nat) : List (Str × Nat) := is.filterMap fun i => (N[i]?).map fun x => (x, i)
def dbg : Str := "__debug__"
def cdt : Str := "__classdict__"
mutual
def mG (c : Sc) : Tg → Expr → Bool
  | .name i, .Name x _ => c.N[i]? == some x && (match c.kd x with | some .local => true | some .cell => c.fn x | _ => false)
  | .tup r, .Tuple es _ _ => mGs c r es
  | _, _ => false
def mGs (c : Sc) : Tgs → List Expr → Bool
  | .nil, [] => true
  | .cons t r, e :: es => noStar e && mG c t e && mGs c r es
  | _, _ => false
end
mutual
def mE (c : Sc) : E → Expr → Bool
  | .loc i, .Name x _ => c.N[i]? == some x && visB (c.kd x) && !(x == dbg) && !(x == cdt)
  | .const d, .Constant k _ _ => mC d k
  | .glob x, .Name y _ => x == y && glB (c.kd x) && !(x == dbg)
  | .bin op a b, .BinOp a' op' b' _ => opB op op' && mE c a a' && mE c b b'
  | .neg a, .UnaryOp op a' _ => (match op with | .USub => true | _ => false) && mE c a a'
  | .cmp op a b, .Compare a' ops bs _ => (match ops, bs with
    | [op'], [b'] => cmB op op' && mE c a a' && mE c b b' && noSet b'
    | _, _ => false)
  | .cmp2 op1 op2 a b d, .Compare a' ops bs _ => (match ops, bs with
    | [o1, o2], [b', d'] => cmB op1 o1 && cmB op2 o2 && mE c a a' && mE c b b' && mE c d d' && noSet d'
    | _, _ => false)
  | .bool op es, .BoolOp op' es' _ => boB op op' && mEs c es es' && !es'.isEmpty
  | .not a, .UnaryOp op a' _ => (match op with | .Not => true | _ => false) && mE c a a'
  | .ite t a b, .IfExp t' a' b' _ => mE c t t' && mE c a a' && mE c b b'
  | .call f es _, .Call fx es' ks _ => (match fx, ks with
    | .Name x _, [] => f == x && glB (c.kd x) && !(x == dbg) && mEs c es es'
    | _, _ => false)
  | .make _ C es _, .Call fx es' ks _ => (match fx, ks with
    | .Name x _, [] => C == x && glB (c.kd x) && !(x == dbg) && mEs c es es'
    | _, _ => false)
  | .bi _ b es, .Call fx es' ks _ => (match fx, ks with
    | .Name x _, [] => b.nm == x && glB (c.kd x) && mEs c es es' && !es'.isEmpty
    | _, _ => false)
  | .isi a t, .Call fx es' ks _ => (match fx, ks, es' with
    | .Name x _, [], [a', .Name y _] => x == ("isinstance" : Str) && glB (c.kd x) && glB (c.kd y) && (match t with | .b n => biTys.contains n && Str.ofString n == y | .o C => C == y) && !(y == dbg) && noStar a' && mE c a a'
    | _, _, _ => false)
  | .meth m o es, .Call fx es' ks cpos => (match fx, ks with
    | .Attribute o' x apos, [] => m.nm == x && mE c o o' && noSup o' && mEs c es es' && !es'.isEmpty && decide (es'.length < 30) && (apos.endLine == cpos.line)
    | _, _ => false)
  | .own o C m es, .Call fx es' ks cpos => (match fx, ks with
    | .Attribute o' x apos, [] => m == x && mE c o o' && noSup o' && mEs c es es' && decide (es'.length < 30) && (apos.endLine == cpos.line)
    | _, _ => false)
  | .attr o f, .Attribute o' x _ => f == x && mE c o o' && noSup o'
  | .sub o i, .Subscript o' i' _ => mE c o o' && mE c i i' && plainSlice i'
  | .sl o lo hi, .Subscript o' i' _ => (match i' with
    | .Slice lo' hi' none _ => mE c o o' && mO c lo lo' && mO c hi hi'
    | _ => false)
  | .tup es, .Tuple es' _ _ => mEs c es es'
  | .lst _ es, .List es' _ => mEs c es es'
  | .lc _ elt tg it ifs, .ListComp elt' gs scope _ => (match gs with
    | [⟨tg', it', ifs', 0⟩] => mI c it it' tg' && noSet it' && blkC c.N c.sc scope (ownOf c.N (tgSlots tg)) && decide ((ownOf c.N (tgSlots tg)).length = (tgSlots tg).length) &&
      mG (c.blk scope) tg tg' && mE (c.blk scope) elt elt' && (match ifs' with
        | [] => (match ifs with | .no => true | .yes _ => false)
        | [t] => (match ifs with | .no => false | .yes e => mE (c.blk scope) e t)
        | _ => false)
    | _ => false)
  | .bad, _ => true
  | .sset _ a, .Call fx es' ks _ => (match fx, ks, es' with
    | .Name x _, [], [.Call (.Name y _) [a'] [] _] => x == ("sorted" : Str) && y == ("set" : Str) && glB (c.kd x) && glB (c.kd y) && noStar a' && mE c a a'
    | _, _, _ => false)
  | .repl _ es b, .BinOp a' op b' _ => (match a', op with
    | .List es' _, .Mult => mEs c es es' && mE c b b'
    | _, _ => false)
  | .dct _ ps, .Dict ks' vs' _ => mPs c ps ks' vs' && decide (ks'.length ≤ 15)
  | .dc _ kx vx tg it ifs, .DictComp kx' vx' gs scope _ => (match gs with
    | [⟨tg', it', ifs', 0⟩] => mI c it it' tg' && noSet it' && blkC c.N c.sc scope (ownOf c.N (tgSlots tg)) && decide ((ownOf c.N (tgSlots tg)).length = (tgSlots tg).length) &&
      mG (c.blk scope) tg tg' && mE (c.blk scope) kx kx' && mE (c.blk scope) vx vx' && (match ifs' with
        | [] => (match ifs with | .no => true | .yes _ => false)
        | [t] => (match ifs with | .no => false | .yes e => mE (c.blk scope) e t)
        | _ => false)
    | _ => false)
  | .rngT es, .Call fx es' ks _ => (match fx, ks, es' with
    | .Name x _, [], [.Call (.Name y _) rs [] _] => x == ("tuple" : Str) && y == ("range" : Str) && glB (c.kd x) && glB (c.kd y) && mEs c es rs && !rs.isEmpty
    | _, _, _ => false)
  | .rev _ a, .Subscript a' i' _ => (match i' with
    | .Slice none none (some (.UnaryOp .USub (.Constant (.int n) _ _) _)) _ => n == 1 && mE c a a'
    | _ => false)
  | .ssc _ elt tg it ifs, .Call fx es' ks _ => (match fx, ks, es' with
    | .Name x _, [], [.SetComp elt' [⟨tg', it', ifs', 0⟩] scope _] => x == ("sorted" : Str) && glB (c.kd x) && (mI c it it' tg' && noSet it' && blkC c.N c.sc scope (ownOf c.N (tgSlots tg)) && decide ((ownOf c.N (tgSlots tg)).length = (tgSlots tg).length) &&
      mG (c.blk scope) tg tg' && mE (c.blk scope) elt elt' && (match ifs' with
        | [] => (match ifs with | .no => true | .yes _ => false)
        | [t] => (match ifs with | .no => false | .yes e => mE (c.blk scope) e t)
        | _ => false))
    | _, _, _ => false)
  | .callk f es ks kes _, .Call fx es' kws _ => (match fx with
    | .Name x _ => f == x && glB (c.kd x) && !(x == dbg) && mEs c es es' && mKs c kes ks kws && !kws.isEmpty
    | _ => false)
  | _, _ => false
def mPs (c : Sc) : Ep → List (Option Expr) → List Expr → Bool
  | .nil, [], [] => true
  | .cons k v r, some x :: xs, y :: ys => mE c k x && mE c v y && mPs c r xs ys
  | _, _, _ => false
def mKs (c : Sc) : Es → List Str → List Keyword → Bool
  | .nil, [], [] => true
  | .cons e r, k :: ks, ⟨nm, x, _⟩ :: kws => nm == some k && mE c e x && mKs c r ks kws
  | _, _, _ => false
def mEs (c : Sc) : Es → List Expr → Bool
  | .nil, [] => true
  | .cons e r, x :: xs => noStar x && mE c e x && mEs c r xs
  | _, _ => false
def mO (c : Sc) : Eo → Option Expr → Bool
  | .no, none => true
  | .yes e, some x => mE c e x
  | _, _ => false
def mI (c : Sc) : It → Expr → Expr → Bool
  | .seq e, x, _ => mE c e x
  | .range es, x, _ => (match x with
    | .Call (.Name y _) es' [] _ => y == ("range" : Str) && glB (c.kd y) && mEs c es es' && !es'.isEmpty && decide (es'.length ≤ 3)
    | _ => false)
  | .enum e, x, tg => (match x, tg with
    | .Call (.Name y _) [a] [] _, .Tuple _ _ _ => y == ("enumerate" : Str) && glB (c.kd y) && noStar a && mE c e a
    | _, _ => false)
  | .zip p q, x, tg => (match x, tg with
    | .Call (.Name y _) [a, b] [] _, .Tuple _ _ _ => y == ("zip" : Str) && glB (c.kd y) && noStar a && noStar b && mE c p a && mE c q b
    | _, _ => false)
end
end G
/-! G6: what a for goes through: lists, tuples, texts, ranges; zip and enumerate of these. -/
namespace G
open PySem L2 PyProof.Rows
/-- a list, a tuple, a text -/
inductive Sr where
  | ls (a : Addr) | tp (a : Addr) | tx (x : Str)
def sgn (c : Nat) : V := .str ⟨#[c]⟩
def Sr.has (K : PySem.W.Frag) (H : Hp) : Sr → List V → Prop
  | .ls a, xs => SqL K H a xs
  | .tp a, xs => SqT K H a xs
  | .tx z, xs => xs = z.cps.toList.map sgn
def Sr.val : Sr → V
  | .ls a => .ref a
  | .tp a => .ref a
  | .tx z => .str z
def Sr.below (N : Nat) : Sr → Prop
  | .ls a => a < N
  | .tp a => a < N
  | .tx _ => True
def Sr.ext : Sr → List Addr
  | .ls a => [a]
  | .tp a => [a]
  | .tx _ => []
def Sr.itr (it : Addr) (tk : Tok) (i : Nat) (h : Heap) : Sr → Prop
  | .ls a => h.IsListIter it a i
  | .tp a => h.IsTupleIter it a i
  | .tx z => h.IsStrIter it (strIterType z) z tk i
def Sr.obj (tk : Tok) : Sr → Obj
  | .ls a => { cls := .type "list_iterator", data := .fields #[.ref a, .int 0 0] }
  | .tp a => { cls := .type "tuple_iterator", data := .fields #[.ref a, .int 0 0] }
  | .tx z => { cls := .type (strIterType z), data := .fields #[.str z tk, .int 0 0] }
section
variable {X : Cx} {pins : List (Addr × Obj)} {σ : L2.St} {H : Hp} {s : Shared}
theorem Sr.inj (I : L2.Inv X pins σ H s) {r : Sr} {xs ys : List V} (h : r.has X.K H xs) (h' : r.has X.K H ys) : xs = ys := by
  cases r with
  | ls a => exact I.list_inj h h'
  | tp a => exact I.tuple_inj h h'
  | tx z => exact Eq.trans h (Eq.symm h')
theorem Sr.lt (I : L2.Inv X pins σ H s) {r : Sr} {xs : List V} (h : r.has X.K H xs) : r.below s.heap.objs.size := by
  cases r with
  | ls a => obtain ⟨its, rv, p, _⟩ := I.list h; exact p.lt
  | tp a => obtain ⟨its, rv, p, _⟩ := I.tuple h; exact p.lt
  | tx z => trivial
theorem Sr.begins (I : L2.Inv X pins σ H s) {r : Sr} {xs : List V} {u : Value} (h : r.has X.K H xs) (ru : RelV r.val u) : ∃ (tk : Tok) (Hq : Heap → Prop), Begins u (r.obj tk) Hq ∧ Hq s.heap := by
  cases r with
  | ls a => obtain ⟨its, rv, p, _⟩ := I.list h; cases ru; exact ⟨0, _, begins_list a its.toArray, p.isList⟩
  | tp a => obtain ⟨its, rv, p, _⟩ := I.tuple h; cases ru; exact ⟨0, _, begins_tuple a its.toArray, (show s.heap.IsTuple a its.toArray from p)⟩
  | tx z => obtain ⟨t, rfl⟩ := ru; exact ⟨t, _, begins_text z t, trivial⟩
theorem Sr.itr0 {r : Sr} {it : Addr} {tk : Tok} {h : Heap} (e : h.get? it = some (r.obj tk)) : r.itr it tk 0 h := by
  cases r with
  | ls a => exact ⟨_, e, rfl, rfl⟩
  | tp a => exact ⟨_, e, rfl, rfl⟩
  | tx z => exact ⟨_, e, rfl, rfl⟩
theorem Sr.itrAt {r : Sr} {it : Addr} {tk : Tok} {i : Nat} {h h' : Heap} (k : ∀ o, h.get? it = some o → h'.get? it = some o) (st : r.itr it tk i h) : r.itr it tk i h' := by
  cases r with
  | ls a => obtain ⟨o, e, q⟩ := st; exact ⟨o, k o e, q⟩
  | tp a => obtain ⟨o, e, q⟩ := st; exact ⟨o, k o e, q⟩
  | tx z => obtain ⟨o, e, q⟩ := st; exact ⟨o, k o e, q⟩
theorem Sr.itrObj {r : Sr} {it : Addr} {tk : Tok} {i : Nat} {h : Heap} (st : r.itr it tk i h) : ∃ o, h.get? it = some o ∧ ∀ v : Option Value, o.data ≠ Data.cell v := by
  cases r with
  | ls a => obtain ⟨o, e, _, d⟩ := st; exact ⟨o, e, fun v q => by rw [d] at q; cases q⟩
  | tp a => obtain ⟨o, e, _, d⟩ := st; exact ⟨o, e, fun v q => by rw [d] at q; cases q⟩
  | tx z => obtain ⟨o, e, _, d⟩ := st; exact ⟨o, e, fun v q => by rw [d] at q; cases q⟩
/-- the library's drawing of such a thing -/
theorem Sr.draws (I : L2.Inv X pins σ H s) {A : Around} (hh : A.handled = none) {r : Sr} {xs : List V} (h : r.has X.K H xs) {it : Addr} (tk : Tok) (ne : ∀ a ∈ r.ext, a ≠ it) :
    ∃ P St, Draws X.prog X.w A it (it :: r.ext) xs.length P St ∧ (∀ i, r.itr it tk i s.heap → St i s.heap) ∧ (∀ i h', St i h' → r.itr it tk i h') ∧ (∀ i u x, P i u → xs[i]? = some x → RelV x u) := by
  cases r with
  | ls a =>
    obtain ⟨its, rv, p, _⟩ := I.list h
    have hl := rv.length
    have D := Draws.list (prog := X.prog) (w := X.w) hh it a (ne a (by simp [Sr.ext])) its.toArray
    rw [List.size_toArray, ← hl] at D
    refine ⟨_, _, D, fun i st => ⟨st, p.isList⟩, fun i h' st => st.1, fun i u x hp hx => ?_⟩
    obtain ⟨u', e, q⟩ := rv.get hx
    have : its[i]? = some u := by simpa using hp
    rw [e] at this
    cases this
    exact q
  | tp a =>
    obtain ⟨its, rv, p, _⟩ := I.tuple h
    have hl := rv.length
    have D := Draws.tuple (prog := X.prog) (w := X.w) hh it a (ne a (by simp [Sr.ext])) its.toArray
    rw [List.size_toArray, ← hl] at D
    refine ⟨_, _, D, fun i st => ⟨st, (show s.heap.IsTuple a its.toArray from p)⟩, fun i h' st => st.1, fun i u x hp hx => ?_⟩
    obtain ⟨u', e, q⟩ := rv.get hx
    have : its[i]? = some u := by simpa using hp
    rw [e] at this
    cases this
    exact q
  | tx z =>
    have D := Draws.text (prog := X.prog) (w := X.w) hh it z tk
    have hl : z.cps.size = xs.length := by rw [show xs = _ from h]; simp
    rw [hl] at D
    refine ⟨_, _, D, fun i st => st, fun i h' st => st, fun i u x ⟨c, t, hc, e⟩ hx => ?_⟩
    have h' : xs = z.cps.toList.map sgn := h
    rw [h', List.getElem?_map, Array.getElem?_toList, hc] at hx
    cases hx
    exact ⟨t, e⟩
end
theorem memW {N b : Nat} (h : b ∈ [N + 4, N + 3, N, N + 1]) : b ∈ [N + 4, N + 2, N + 3, N, N + 1] := by
  simp only [List.mem_cons, List.not_mem_nil, or_false] at h ⊢
  rcases h with h | h | h | h <;> simp [h]
theorem mem5 {N c : Nat} (h : c ∈ [N + 4, N + 2, N + 3, N, N + 1]) : c = N + 4 ∨ c = N + 2 ∨ c = N + 3 ∨ c = N ∨ c = N + 1 := by simpa using h
theorem le5 {N c : Nat} (h : c ∈ [N + 4, N + 2, N + 3, N, N + 1]) : N ≤ c := by
  rcases mem5 h with h | h | h | h | h <;> omega
/-! ### zip -/
def Jz (K : PySem.W.Frag) (r1 r2 : Sr) : L2.It :=
  ⟨fun i H => ∃ xs ys x y, r1.has K H xs ∧ r2.has K H ys ∧ xs[i]? = some x ∧ ys[i]? = some y,
   fun i H v H' => ∃ T x y, v = .ref T ∧ H T = none ∧ H' = upd H T (.tup [x, y]) ∧ (∀ xs, r1.has K H xs → xs[i]? = some x) ∧ ∀ ys, r2.has K H ys → ys[i]? = some y,
   fun i H => ∃ xs ys, r1.has K H xs ∧ r2.has K H ys ∧ i = min xs.length ys.length⟩
theorem turn_z {P : Program} {w : World} {K : PySem.W.Frag} {elts : List Expr} {kk : Nat} {tpos : Pos} {r1 r2 : Sr} {N : Nat} (b1 : r1.below N) (b2 : r2.below N) (t1 t2 : Tok) :
    Turn P w K (.Tuple elts kk tpos) (Jz K r1 r2) [N + 4, N + 2, N + 3, N, N + 1] (N + 4) (fun i h => IsZip h (N + 4) (N + 2) (N + 3) .none ∧ IsTupOf2 h (N + 2) (.ref N) (.ref (N + 1)) ∧ (∃ x y, IsTupOf2 h (N + 3) x y) ∧ r1.itr N t1 i h ∧ r2.itr (N + 1) t2 i h) := by
  have l1 : ∀ b ∈ r1.ext, b < N := by cases r1 <;> simp [Sr.ext] <;> exact b1
  have l2 : ∀ b ∈ r2.ext, b < N := by cases r2 <;> simp [Sr.ext] <;> exact b2
  refine ⟨by simp, fun i h st c hc => ?_, fun i h h' st k => ?_, ?_, ?_, fun A i s Q E st h => wpAny_pyIter_zip st.1 h⟩
  · obtain ⟨hz, hTI, ⟨x, y, hTO⟩, h1, h2⟩ := st
    rcases mem5 hc with rfl | rfl | rfl | rfl | rfl
    · exact ⟨_, hz, fun v q => nomatch q⟩
    · exact ⟨_, hTI, fun v q => nomatch q⟩
    · exact ⟨_, hTO, fun v q => nomatch q⟩
    · exact Sr.itrObj h1
    · exact Sr.itrObj h2
  · obtain ⟨hz, hTI, ⟨x, y, hTO⟩, h1, h2⟩ := st
    exact ⟨k _ (by simp) _ hz, k _ (by simp) _ hTI, ⟨x, y, k _ (by simp) _ hTO⟩, Sr.itrAt (fun o q => k N (by simp) o q) h1, Sr.itrAt (fun o q => k (N + 1) (by simp) o q) h2⟩
  · intro X hP hw hK hc i pins s σ H E I hf st hg
    subst hP hw hK
    obtain ⟨hz, hTI, hTO, h1, h2⟩ := st
    obtain ⟨xs, ys, x, y, qx, qy, ex, ey⟩ := hg
    have hh : X.A.in1.handled = none := I.ok.hd hc
    obtain ⟨P1, St1, D1, s1, f1, p1⟩ := Sr.draws I hh qx (it := N) t1 (fun a ha => Nat.ne_of_lt (l1 a ha))
    obtain ⟨P2, St2, D2, s2, f2, p2⟩ := Sr.draws I hh qy (it := N + 1) t2 (fun a ha => Nat.ne_of_lt (Nat.lt_succ_of_lt (l2 a ha)))
    have G := GoesN.zip2 (elts := elts) (x1 := kk) (pos := tpos) (zip_sep2 l1 l2) D1 D2
    have ix := (List.getElem?_eq_some_iff.mp ex).1
    have iy := (List.getElem?_eq_some_iff.mp ey).1
    refine G.goes i s _ E (Nat.lt_min.mpr ⟨ix, iy⟩) ⟨hz, hTI, hTO, s1 i h1, s2 i h2⟩ fun v h' tk hY st' hk _ => ?_
    obtain ⟨T, u1, u2, rfl, hT, q1, q2, hTup⟩ := hY
    obtain ⟨hz', hTI', hTO', st1', st2'⟩ := st'
    have new : ObjOk X.prog X.w (upd H T (.tup [x, y])) h' T (.tup [x, y]) :=
      ⟨by show 2 ≤ sizeLine; decide, [u1, u2], .cons (p1 i u1 x q1 ex) (.cons (p2 i u2 y q2 ey) .nil), hTup⟩
    have I1 := I.turnedNew (t' := tk) (ch := [N + 4, N + 2, N + 3, N, N + 1]) (h' := h') (fun b o hb q => hk b o (fun z => hb (memW z)) q) hf hT new
    have big : ∀ c ∈ [N + 4, N + 2, N + 3, N, N + 1], c < s.heap.objs.size := fun c hc' => by
      rcases mem5 hc' with rfl | rfl | rfl | rfl | rfl
      · exact Heap.lt_size hz
      · exact Heap.lt_size hTI
      · obtain ⟨_, _, e⟩ := hTO; exact Heap.lt_size e
      · obtain ⟨_, e, _⟩ := Sr.itrObj h1; exact Heap.lt_size e
      · obtain ⟨_, e, _⟩ := Sr.itrObj h2; exact Heap.lt_size e
    refine ⟨.ref T, _, I1, rfl, ⟨T, x, y, rfl, I.hok.fresh hT, rfl, fun l hl => by rw [Sr.inj I hl qx]; exact ex, fun l hl => by rw [Sr.inj I hl qy]; exact ey⟩, ⟨hz', hTI', hTO', f1 _ _ st1', f2 _ _ st2'⟩, fun c hc' => ?_⟩
    rw [upd_ne (Nat.ne_of_lt (Nat.lt_of_lt_of_le (big c hc') hT))]
    exact (hf c hc').1
  · intro X hP hw hK hc i pins s σ H E I hf st hg
    subst hP hw hK
    obtain ⟨hz, hTI, hTO, h1, h2⟩ := st
    obtain ⟨xs, ys, qx, qy, rfl⟩ := hg
    have hh : X.A.in1.handled = none := I.ok.hd hc
    obtain ⟨P1, St1, D1, s1, f1, p1⟩ := Sr.draws I hh qx (it := N) t1 (fun a ha => Nat.ne_of_lt (l1 a ha))
    obtain ⟨P2, St2, D2, s2, f2, p2⟩ := Sr.draws I hh qy (it := N + 1) t2 (fun a ha => Nat.ne_of_lt (Nat.lt_succ_of_lt (l2 a ha)))
    have G := GoesN.zip2 (elts := elts) (x1 := kk) (pos := tpos) (zip_sep2 l1 l2) D1 D2
    exact G.stops s _ E ⟨hz, hTI, hTO, s1 _ h1, s2 _ h2⟩ fun h' tk hk _ => I.turnedL (t' := tk) (ch := [N + 4, N + 2, N + 3, N, N + 1]) (fun b o hb q => hk b o (fun z => hb (memW z)) q) hf
def iZ (K : PySem.W.Frag) (ta : TA) : TI := fun σ H R => ta σ H fun vs H1 => ∃ r1 r2 xs ys, vs = [Sr.val r1, Sr.val r2] ∧ r1.has K H1 xs ∧ r2.has K H1 ys ∧ R (Jz K r1 r2) H1
theorem pi_z {X : Cx} {e e2 : Expr} {ta : TA} {p pos tpos : Pos} {elts : List Expr} {kk : Nat} (hg : Gl X "zip") (hm : X.mg "zip" = none) (ha : PA X [e, e2] ta)
    (hs : starEach [e, e2] X.env = (false, eval e X.env) :: starEach [e2] X.env) (hpl : (backTo pos (starEach [e2] X.env)).any (·.1) = false) :
    PI X (.Tuple elts kk tpos) (.Call (.Name "zip" p) [e, e2] [] pos) (iZ X.K ta) := by
  refine ⟨fun pins s σ H R I h => ?_⟩
  refine Call_ (ld_blt I hg hm PyProof.Rows.boot_zip (PyProof.Rows.callWith_type1 (thn (ha.run pos pins s σ H _ I h) ?_) hs hpl))
  rintro us s1 ⟨vs, H1, I1, rv, r1, r2, xs, ys, rfl, qx, qy, q⟩
  obtain ⟨u1, u2, rfl, ru1, ru2⟩ := vals2 rv
  obtain ⟨t1, Hq1, B1, g1⟩ := Sr.begins I1 qx ru1
  obtain ⟨t2, Hq2, B2, g2⟩ := Sr.begins I1 qy ru2
  refine zip_begins2 B1 B2 g1 g2 fun h' hz hTI hTO e1 e2' hsz hk => wpAny_pyIter_zip hz ?_
  refine ⟨s1.heap.objs.size + 4, _, _, _, H1, rfl, I1.kept (t' := s1.toks) hk, turn_z (Sr.lt I1 qx) (Sr.lt I1 qy) t1 t2, ⟨hz, hTI, ⟨_, _, hTO⟩, Sr.itr0 e1, Sr.itr0 e2'⟩, fun c hc => ?_, q⟩
  have hle : s1.heap.objs.size ≤ c := le5 hc
  exact I1.fpOk hle (I1.hok.fresh hle)
end G
/-! G7: enumerate of lists, tuples, texts; a for over any of them. -/
namespace G
open PySem L2 PyProof.Rows
open PySem.AutoSeq1 (wpAny_loadPart')
theorem meets_enum1 {v : Value} {o : Obj} {Hq : Heap → Prop} (B : Begins v o Hq) :
    Meets (Builtin.«enumerate.__new__» ⟨[.type "enumerate", v], []⟩) (fun _ R s => Hq s.heap ∧
      R (.ok (.ret (.ref (s.heap.push o).objs.size))) { s with heap := (s.heap.push o).push { cls := .type "enumerate", data := .fields #[.none, .bool false, .ref s.heap.objs.size, rawInt 0, .none, .none] } }) :=
  .of_wp fun prog w A R s hyp => by
    obtain ⟨hp, gs, dr, tk, os⟩ := s
    obtain ⟨h1, hyp⟩ := hyp
    have hsub := sub_enumerate
    have beg : ∀ {A' : Around} {E : Value → Shared → Prop} {Q : Value → Shared → Prop}, Q (.ref hp.objs.size) ⟨hp.push o, gs, dr, tk, os⟩ → wpAny (model prog w) A' (pyIter v) Q E ⟨hp, gs, dr, tk, os⟩ :=
      fun q => B.iter prog w _ _ ⟨hp, gs, dr, tk, os⟩ _ h1 q
    wp_walk using beg
    refine wpAny_stack_any fun st => wpAny_pure ?_
    split
    · rename_i c _ _ _ _ _
      cases (c == Value.type "enumerate") <;> (wp_walk using beg; exact ⟨_, rfl, hyp⟩)
    · wp_walk using beg
      exact ⟨_, rfl, hyp⟩
theorem enum_begins1 {prog : Program} {w : World} {A : Around} {E : Value → Shared → Prop} {s : Shared} {v : Value} {o : Obj} {Hq : Heap → Prop} {Q : Value → Shared → Prop} (B : Begins v o Hq) (h1 : Hq s.heap)
    (h : ∀ h', IsEnum h' (s.heap.objs.size + 1) s.heap.objs.size 0 .none → h'.get? s.heap.objs.size = some o → (∀ b o, s.heap.get? b = some o → h'.get? b = some o) → Q (.ref (s.heap.objs.size + 1)) { s with heap := h' }) :
    wpAny (model prog w) A (call (.type "enumerate") [v]) Q E s := by
  refine callType_new F.called_enumerate (by decide) (F.typeCall_enumerate_1 _) (F.newCall_enumerate_1 _) (fun obj => F.args_object_init_2 obj _) F.entry_enumerate_new (meets_enum1 B) ⟨h1, ?_⟩
  have hz : (s.heap.push o).objs.size = s.heap.objs.size + 1 := Heap.size_push ..
  have g1 : (s.heap.push o).get? s.heap.objs.size = some o := Heap.get?_push_size _ B.free
  have he : ((s.heap.push o).push { cls := .type "enumerate", data := .fields #[.none, .bool false, .ref s.heap.objs.size, rawInt 0, .none, .none] }).get? (s.heap.objs.size + 1) = some { cls := .type "enumerate", data := .fields #[.none, .bool false, .ref s.heap.objs.size, rawInt 0, .none, .none] } := by
    rw [← hz]; exact Heap.get?_push_size _ rfl
  show _ ∧ _
  rw [hz]
  exact ⟨⟨_, he, rfl⟩, h _ he (Heap.get?_push_of_some _ g1) fun b o' q => Heap.get?_push_of_some _ (Heap.get?_push_of_some _ q)⟩
/-- the items with their numbers -/
def Je (K : PySem.W.Frag) (r : Sr) : L2.It :=
  ⟨fun i H => ∃ xs x, r.has K H xs ∧ xs[i]? = some x,
   fun i H v H' => ∃ T x, v = .ref T ∧ H T = none ∧ H' = upd H T (.tup [.int i, x]) ∧ ∀ xs, r.has K H xs → xs[i]? = some x,
   fun i H => ∃ xs, r.has K H xs ∧ i = xs.length⟩
theorem mem2 {N c : Nat} (h : c ∈ [N + 1, N]) : c = N + 1 ∨ c = N := by simpa using h
theorem turn_e {P : Program} {w : World} {K : PySem.W.Frag} {elts : List Expr} {kk : Nat} {tpos : Pos} {r : Sr} {N : Nat} (b1 : r.below N) (t1 : Tok) :
    Turn P w K (.Tuple elts kk tpos) (Je K r) [N + 1, N] (N + 1) (fun i h => (∃ old, IsEnum h (N + 1) N (0 + (i : Int)) old) ∧ r.itr N t1 i h) := by
  have l1 : ∀ b ∈ r.ext, b < N := by cases r <;> simp [Sr.ext] <;> exact b1
  have nf : N + 1 ∉ N :: r.ext := fun z => by
    rcases List.mem_cons.mp z with z | z
    · exact absurd z (Nat.succ_ne_self N)
    · exact absurd (l1 _ z) (Nat.not_lt.mpr (Nat.le_succ N))
  refine ⟨by simp, fun i h st c hc => ?_, fun i h h' st k => ?_, ?_, ?_, fun A i s Q E st h => let ⟨_, e⟩ := st.1; wpAny_pyIter_enum e h⟩
  · obtain ⟨⟨old, he⟩, h1⟩ := st
    rcases mem2 hc with rfl | rfl
    · exact ⟨_, he, fun v q => nomatch q⟩
    · exact Sr.itrObj h1
  · obtain ⟨⟨old, he⟩, h1⟩ := st
    exact ⟨⟨old, k _ (by simp) _ he⟩, Sr.itrAt (fun o q => k N (by simp) o q) h1⟩
  · intro X hP hw hK hc i pins s σ H E I hf st hg
    subst hP hw hK
    obtain ⟨⟨old, he⟩, h1⟩ := st
    obtain ⟨xs, x, qx, ex⟩ := hg
    have hh : X.A.in1.handled = none := I.ok.hd hc
    obtain ⟨P1, St1, D1, s1, f1, p1⟩ := Sr.draws I hh qx (it := N) t1 (fun a ha => Nat.ne_of_lt (l1 a ha))
    have G := GoesN.enumFrom (elts := elts) (x1 := kk) (pos := tpos) 0 D1 (N + 1) (Nat.succ_ne_self N) nf (by simp)
    have ix := (List.getElem?_eq_some_iff.mp ex).1
    refine G.goes i s _ E ix ⟨⟨old, he⟩, s1 i h1⟩ fun v h' tk hY st' hk _ => ?_
    obtain ⟨T, t, u1, rfl, hT, q1, hTup⟩ := hY
    rw [Int.zero_add] at hTup
    obtain ⟨he', st1'⟩ := st'
    have new : ObjOk X.prog X.w (upd H T (.tup [.int i, x])) h' T (.tup [.int i, x]) :=
      ⟨by show 2 ≤ sizeLine; decide, [_, u1], .cons ⟨t, rfl⟩ (.cons (p1 i u1 x q1 ex) .nil), hTup⟩
    have I1 := I.turnedNew (t' := tk) (ch := [N + 1, N]) (h' := h') (fun b o hb q => hk b o hb q) hf hT new
    have big : ∀ c ∈ [N + 1, N], c < s.heap.objs.size := fun c hc' => by
      rcases mem2 hc' with rfl | rfl
      · exact Heap.lt_size he
      · obtain ⟨_, e, _⟩ := Sr.itrObj h1; exact Heap.lt_size e
    refine ⟨.ref T, _, I1, rfl, ⟨T, x, rfl, I.hok.fresh hT, rfl, fun l hl => by rw [Sr.inj I hl qx]; exact ex⟩, ⟨he', f1 _ _ st1'⟩, fun c hc' => ?_⟩
    rw [upd_ne (Nat.ne_of_lt (Nat.lt_of_lt_of_le (big c hc') hT))]
    exact (hf c hc').1
  · intro X hP hw hK hc i pins s σ H E I hf st hg
    subst hP hw hK
    obtain ⟨⟨old, he⟩, h1⟩ := st
    obtain ⟨xs, qx, rfl⟩ := hg
    have hh : X.A.in1.handled = none := I.ok.hd hc
    obtain ⟨P1, St1, D1, s1, f1, p1⟩ := Sr.draws I hh qx (it := N) t1 (fun a ha => Nat.ne_of_lt (l1 a ha))
    have G := GoesN.enumFrom (elts := elts) (x1 := kk) (pos := tpos) 0 D1 (N + 1) (Nat.succ_ne_self N) nf (by simp)
    exact G.stops s _ E ⟨⟨old, he⟩, s1 _ h1⟩ fun h' tk hk _ => I.turnedL (t' := tk) (ch := [N + 1, N]) (fun b o hb q => hk b o hb q) hf
def iE (K : PySem.W.Frag) (ta : TA) : TI := fun σ H R => ta σ H fun vs H1 => ∃ r xs, vs = [Sr.val r] ∧ r.has K H1 xs ∧ R (Je K r) H1
theorem pi_e {X : Cx} {e : Expr} {ta : TA} {p pos tpos : Pos} {elts : List Expr} {kk : Nat} (hg : Gl X "enumerate") (hm : X.mg "enumerate" = none) (ha : PA X [e] ta)
    (hs : starEach [e] X.env = (false, eval e X.env) :: starEach [] X.env) : PI X (.Tuple elts kk tpos) (.Call (.Name "enumerate" p) [e] [] pos) (iE X.K ta) := by
  refine ⟨fun pins s σ H R I h => ?_⟩
  refine Call_ (ld_blt I hg hm boot_enumerate (PyProof.Rows.callWith_type1 (thn (ha.run pos pins s σ H _ I h) ?_) hs rfl))
  rintro us s1 ⟨vs, H1, I1, rv, r, xs, rfl, qx, q⟩
  obtain ⟨u1, rfl, ru1⟩ := vals1 rv
  obtain ⟨t1, Hq1, B1, g1⟩ := Sr.begins I1 qx ru1
  refine enum_begins1 B1 g1 fun h' he e1 hk => wpAny_pyIter_enum he ?_
  refine ⟨s1.heap.objs.size + 1, _, _, _, H1, rfl, I1.kept (t' := s1.toks) hk, turn_e (Sr.lt I1 qx) t1, ⟨⟨_, he⟩, Sr.itr0 e1⟩, fun c hc => ?_, q⟩
  have hle : s1.heap.objs.size ≤ c := by
    rcases mem2 hc with h | h <;> omega
  exact I1.fpOk hle (I1.hok.fresh hle)
/-- a list, a tuple or a text itself -/
def Js (K : PySem.W.Frag) : Sr → L2.It
  | .ls a => Itl K a
  | .tp a => Itt K a
  | .tx z => Its z
def iS (K : PySem.W.Frag) (te : TE) : TI := fun σ H R => te σ H fun x H1 => ∃ r xs, x = Sr.val r ∧ r.has K H1 xs ∧ R (Js K r) H1
theorem pi_s {X : Cx} {tg e : Expr} {te : TE} (he : PE X e te) : PI X tg e (iS X.K te) := by
  refine ⟨fun pins s σ H R I h => ?_⟩
  refine thn (he.run pins s σ H _ I h) ?_
  rintro v s1 ⟨x, H1, I1, rx, r, xs, rfl, hx, q⟩
  cases r with
  | ls a =>
    cases rx
    obtain ⟨its, rv, p, _⟩ := I1.list hx
    exact wpAny_pyIter_list p.isList (pi_one (tk := s1.toks) I1 _ (turn_list a _) ⟨_, Heap.get?_push_size _ rfl, rfl, rfl⟩ q)
  | tp a =>
    cases rx
    obtain ⟨its, rv, p, _⟩ := I1.tuple hx
    exact wpAny_pyIter_tuple (show s1.heap.IsTuple a its.toArray from p) (pi_one (tk := s1.toks) I1 _ (turn_tuple a _) ⟨_, Heap.get?_push_size _ rfl, rfl, rfl⟩ q)
  | tx z =>
    obtain ⟨t, rfl⟩ := rx
    cases ha : z.cps.all (· < 128)
    · exact wpAny_pyIter_wide ha (pi_one (tk := s1.toks) I1 _ (turn_str _ z t _ (.inr rfl)) ⟨_, Heap.get?_push_size _ rfl, rfl, rfl⟩ q)
    · exact wpAny_pyIter_ascii ha (pi_one (tk := s1.toks) I1 _ (turn_str _ z t _ (.inl rfl)) ⟨_, Heap.get?_push_size _ rfl, rfl, rfl⟩ q)
end G
/-! GF: defs whose callers show nothing (no repr runs around them). -/
namespace G
open PySem PySem.Spec PyProof.Rows L2
/-- a def keeps its promise wherever nothing is being shown around -/
structure FnG (P : Program) (w : World) (K : PySem.W.Frag) (mg : Str → Option Value) (base : Heap) (cx : CXT) (k : Nat) (f : Addr) (fd : FuncData) (ps : List Str) (sp : Sp) : Prop where
  many : ∀ vs H Q E, sp vs H Q E → vs.length = ps.length
  goes : ∀ (A : Around) (outer : List Env) (s : Shared) (H : Hp) (args : Args) (us : List Value) (vs : List V) (Q : VK) (E : XK), A.guards = some [] → Room k A → Env0 P w K mg base A outer s H →
    BindsTo s fd args (ps.zip us) → Vals vs us → sp vs H Q E → codeAny (model P w) A (.call (.ref f) args) (CR cx outer P w H s Q E) s
section
variable {P : Program} {w : World} {K : PySem.W.Frag} {mg : Str → Option Value} {base : Heap} {cx : CXT} {k j : Nat} {f : Addr} {fd : FuncData} {ps : List Str} {sp sp' : Sp}
theorem FnG.up (F : FnG P w K mg base cx j f fd ps sp) (h : j ≤ k) : FnG P w K mg base cx k f fd ps sp := ⟨F.many, fun A o s H as us vs Q E hg hr => F.goes A o s H as us vs Q E hg (hr.mono h)⟩
theorem FnG.weak (F : FnG P w K mg base cx k f fd ps sp) (h : ∀ vs H Q E, sp' vs H Q E → sp vs H Q E) : FnG P w K mg base cx k f fd ps sp' :=
  ⟨fun vs H Q E q => F.many vs H Q E (h vs H Q E q), fun A o s H as us vs Q E hg hr he hb hv q => F.goes A o s H as us vs Q E hg hr he hb hv (h vs H Q E q)⟩
end
section
variable {X : Cx} {cx : CXT} {k : Nat} {f C : Addr} {fd : FuncData} {ps : List Str} {sp : Sp} {E : XK} {pins : List (Addr × Obj)} {σ : L2.St} {H : Hp} {s : Shared} {Q : VK}
/-- a def is called -/
theorem run_g {args : Args} {us : List Value} {vs : List V} (F : FnG X.prog X.w X.K X.mg X.base cx k f fd ps sp) (gs : X.A.guards = some []) (hr : Room k X.A) (bt : BindsTo s fd args (ps.zip us)) (hx : Passes cx X E) (I : L2.Inv X pins σ H s) (rv : Vals vs us) (q : sp vs H Q E) :
    wpAny (model X.prog X.w) X.A (call (.ref f) args.pos args.kw) (EP X pins σ Q) X.xe s := by
  have z := F.goes X.A X.stack s H args us vs Q E gs hr I.env0 bt rv q
  refine wpAny_call (codeAny_mono z fun o s' ho => ?_)
  match o, ho with
  | .error e, ho => exact hx pins σ H s e s' I ho
  | .ok (.ret u), ho => exact I.after ho
  | .ok .next, ho => exact (show False from ho).elim
  | .ok .brk, ho => exact (show False from ho).elim
  | .ok .cont, ho => exact (show False from ho).elim
theorem under_g {A : Around} {us : List Value} {kw : List (Str × Value)} (h : A.guards = some []) : (A.under (.builtin "type.__call__" ⟨.ref C :: us, kw⟩)).guards = some [] := by
  show pushGuards (Code.builtin "type.__call__" ⟨.ref C :: us, kw⟩).guards A.guards = some []
  rw [h]
  rfl
/-- a class is called -/
theorem make_g {us ds : List Value} {vs dvs : List V} (M : Mk X.K C f) (F : FnG X.prog X.w X.K X.mg X.base cx k f fd ps sp) (gs : X.A.guards = some []) (hr : Room (k + 1) X.A) (hb : Binds X.K fd ps ds) (hd : Vals dvs ds) (hx : Passes cx X E) (I : L2.Inv X pins σ H s) (rv : Vals vs us)
    (q : ∀ x dx, H x = none → H dx = none → dx ≠ x → sp (.ref x :: (vs ++ dvs)) (upd (upd H dx (.own x)) x (.ins C dx [])) (fun v H2 => v = .non ∧ Q (.ref x) H2) E) :
    wpAny (model X.prog X.w) X.A (call (.ref C) us) (EP X pins σ Q) X.xe s := by
  let n := s.heap.objs.size
  have q1 := q (n + 1) n (I.hok.fresh (Nat.le_succ _)) (I.hok.fresh (Nat.le_refl _)) (Nat.ne_of_lt (Nat.lt_succ_self _))
  have J := Inv.made (C := C) I
  have rr : Vals (V.ref (n + 1) :: (vs ++ dvs)) (Value.ref (n + 1) :: (us ++ ds)) := .cons rfl (rv.append hd)
  have hl : (Value.ref (n + 1) :: us ++ ds).length = ps.length := rr.length.symm.trans (F.many _ _ _ _ q1)
  have z := F.goes _ X.stack _ _ ⟨Value.ref (n + 1) :: us, []⟩ (Value.ref (n + 1) :: (us ++ ds)) _ _ E (under_g gs) (hr.make C us []) (J.env0.make C us []) (hb _ (Value.ref (n + 1) :: us) J.kIn hl) rr q1
  refine wpAny_call (make_map (f := f) I.kIn M.makes M.init (beq_iff_eq.mp M.fn) (codeAny_mono z fun o s' ho => ?_))
  match o, ho with
  | .error e, ho => exact hx pins σ _ _ e s' J ho
  | .ok (.ret u), ho =>
    obtain ⟨v, H', J2, r2, e2, q2⟩ := J.after ho
    subst e2
    exact ⟨r2, V.ref (n + 1), H', J2, rfl, q2⟩
  | .ok .next, ho => exact (show False from ho).elim
  | .ok .brk, ho => exact (show False from ho).elim
  | .ok .cont, ho => exact (show False from ho).elim
end
/-- a def by its body -/
theorem fn_g {cx : CXT} {P : Program} {w : World} {K : PySem.W.Frag} {mg : Str → Option Value} {base : Heap} {k : Nat} {f : Addr} {nm qual : Str} {pa : Arguments} {bd : List Stmt} {sc : Scope} {dV kV doc pm cdv ct oc : Value} {an od : Option Addr} {osl : Array (Option Value)} {N ps : List Str} {sp : Sp}
    (lk : K.lookup f = some ⟨oc, od, .func (PySem.W.fnOf nm qual pa bd sc dV kV doc pm an cdv ct), osl⟩) (hc : PySem.W.codeIn K cdv qual = true) (fs : FnScope N ps sc) (many : ∀ vs H Q E, sp vs H Q E → vs.length = ps.length)
    (hb : ∀ (A : Around) (outer : List Env) (s : Shared) (H : Hp) (vs : List V) (Q : VK) (E : XK), A.guards = some [] → Room k (A.deeper (envOfC qual sc s.heap.objs.size f cdv)) → sp vs H Q E →
      ∃ t, PSs (cxOf cx P w K mg base N qual sc f cdv A outer s H E) bd t ∧ t { nx := fun _ H' => Q .non H', rt := Q } (L2.start N vs) H) :
    FnG P w K mg base cx (k + 1) f (PySem.W.fnOf nm qual pa bd sc dV kV doc pm an cdv ct) ps sp := by
  refine ⟨many, fun A outer s H args us vs Q E hgd hr e0 bt rv q => ?_⟩
  have kin : K.In s.heap := e0.mod.kin.keeps fun b o e => (e0.bs b o e).1
  have nol : s.heap.NoLimit := e0.mod.nolimit.keeps fun b o e => (e0.bs b o e).1
  refine codeAny_call_function hr.depth (kin _ _ lk) rfl fs.co fs.gen rfl (PySem.W.codeRec_of kin hc) (bt _ _ _ _ ?_)
  refine wpAny_newFunctionEnv_cells fs.kind (fun y hy => ?_) fun env he s1 x => ?_
  · rcases fs.par y.1 (List.of_mem_zip (a := y.1) (b := y.2) hy).1 with z | z
    · exact .inl z
    · exact .inr ⟨z, PySem.W.cellsFrom_some _ _ _ (.inl z)⟩
  subst he
  refine ⟨nol.keeps x.toInCall.keep, codeAny_func ?_⟩
  obtain ⟨t, ht, hq⟩ := hb A outer s H vs Q E hgd (hr.deeper _) q
  have I : L2.Inv (cxOf cx P w K mg base N qual sc f cdv A outer s H E) [] (L2.start N vs) H s1 := inv_start fs hr.hd e0 (many _ _ _ _ q) rv x
  refine wpAny_mono (ht.run [] s1 (L2.start N vs) H _ I hq) (fun fl s' ho => ?_) fun e s' ho => ho
  match fl, ho with
  | .ret u, ho =>
    obtain ⟨v, σ', H', J, r', q'⟩ := ho
    exact ⟨v, H', J.os, J.bare, J.base, J.hok, r', q'⟩
  | .next, ho =>
    obtain ⟨σ', H', J, q'⟩ := ho
    exact ⟨V.non, H', J.os, J.bare, J.base, J.hok, rfl, q'⟩
  | .brk, ho => obtain ⟨_, _, _, z⟩ := ho; exact z.elim
  | .cont, ho => obtain ⟨_, _, _, z⟩ := ho; exact z.elim
end G
/-! GS: sets of whole numbers and of texts, made of a list, a tuple or a text, and put in order. -/
namespace G
open PySem L2 PyProof.Rows
section
variable {P : Program} {w : World} {A : Around} {E : Value → Shared → Prop} {s : Shared} {κ : Type} [DecidableEq κ] {knd : PySem.KeyKind P w κ}
/-- a set that holds the keys l, each once, its table in order -/
def SG (knd : PySem.KeyKind P w κ) (h : Heap) (a : Addr) (l : List κ) : Prop :=
  ∃ o es ep t, h.get? a = some o ∧ o.ExactSet ∧ o.data = .set es ep t ∧ ElemsOf knd es.toList ∧ (∀ k, k ∈ l ↔ ∃ e ∈ es.toList, knd.is k e.2 = true) ∧ es.size = l.length ∧ l.Nodup ∧ es.size < scanBound ∧ t.fits es.size = true ∧ Ris t.place.toList ∧
    (w.params.followText "set-order" = true ∨ t.led = true)
theorem SG.at {h h' : Heap} {a : Addr} {l : List κ} (R : SG knd h a l) (k : ∀ o, h.get? a = some o → h'.get? a = some o) : SG knd h' a l := by
  obtain ⟨o, es, ep, t, ho, r⟩ := R
  exact ⟨o, es, ep, t, k o ho, r⟩
theorem sg_tail {a : Addr} {g : Bool → Sem Unit} (hg : ∀ (b : Bool) (s₁ : Shared) (Q' : Unit → Shared → Prop), Q' () s₁ → wpAny (model P w) A (g b) Q' E s₁)
    {o : Obj} {es : Array (Int × Value)} {ep : Nat} {t : SetTable} (ho : s.heap.get? a = some o) (hex : o.ExactSet) (hd : o.data = .set es ep t)
    {es1 : Array (Int × Value)} {t2 : SetTable} {l : List κ} (el : ElemsOf knd es1.toList) (mem : ∀ k, k ∈ l ↔ ∃ e ∈ es1.toList, knd.is k e.2 = true) (sz : es1.size = l.length) (nd : l.Nodup)
    (hb1 : es1.size < scanBound) (hf2 : t2.fits es1.size = true) (hr : Ris t2.place.toList) (hl : w.params.followText "set-order" = true ∨ t2.led = true) {wasDummy : Bool} {R : Option Bool → Shared → Prop}
    (hR : ∀ h', Heap.SameBut a s.heap h' → SG knd h' a l → R (some true) { s with heap := h' }) :
    wpAny (model P w) A (do
        storeSet a es1 t2
        if (!wasDummy && t2.tooFull) = true then do
            g (relayAll t2 es1 (SetTable.grown es1.size)).2.2
            storeSet a (relayAll t2 es1 (SetTable.grown es1.size)).1 (relayAll t2 es1 (SetTable.grown es1.size)).2.1
            pure (some true)
          else pure (some true)) R E s := by
  have ho1 := store_at (es' := es1) (t' := t2) ho hd
  have sb1 := Heap.SameBut.update s.heap a (Obj.putSet es1 t2)
  refine wpAny_bind (wpAny_storeSet_of ho hd ?_ (fits_of_scanBound hb1))
  split
  · have pm := relayAll_perm t2 es1 (SetTable.grown es1.size)
    have hf3 := relayAll_fits t2 es1 (SetTable.grown es1.size)
    have hr3 := relayAll_ris t2 es1 (SetTable.grown es1.size)
    have hl3 := relayAll_led t2 es1 (SetTable.grown es1.size)
    generalize relayAll t2 es1 (SetTable.grown es1.size) = Z at pm hf3 hr3 hl3 ⊢
    obtain ⟨es2, t3, gave⟩ := Z
    dsimp only at pm hf3 hr3 hl3 ⊢
    have hsz : es2.size = es1.size := by simpa using pm.length_eq
    have hb2 : es2.size < scanBound := by rw [hsz]; exact hb1
    have ho2 := store_at (es' := es2) (t' := t3) ho1 rfl
    refine wpAny_bind (hg _ _ _ (wpAny_bind (wpAny_storeSet_of ho1 rfl ?_ (fits_of_scanBound hb2))))
    refine wpAny_pure (hR _ (sb1.trans (Heap.SameBut.update _ a _)) ⟨_, es2, _, t3, ho2, hex, rfl, el.perm pm, fun k => (mem k).trans ⟨fun ⟨e, he, q⟩ => ⟨e, pm.mem_iff.mpr he, q⟩, fun ⟨e, he, q⟩ => ⟨e, pm.mem_iff.mp he, q⟩⟩, hsz.trans sz, nd, hb2, hf3, hr3,
      hl.imp id fun z => by rw [hl3]; exact z⟩)
  · exact wpAny_pure (hR _ sb1 ⟨_, es1, _, t2, ho1, hex, rfl, el, mem, sz, nd, hb1, hf2, hr, hl⟩)
/-- a key is put in -/
theorem sg_add {a : Addr} {k : κ} {v : Value} {l : List κ} {Q : Bool → Shared → Prop} (hk : knd.is k v = true) (hv : v.scannable = true) (R : SG knd s.heap a l) (room : l.length + 1 < scanBound)
    (hQ : ∀ b h', Heap.SameBut a s.heap h' → SG knd h' a (if k ∈ l then l else k :: l) → Q b { s with heap := h' }) : wpAny (model P w) A (setAddHashed a v (knd.hash k)) Q E s := by
  obtain ⟨o, es, ep, t, ho, hex, hd, el, mem, sz, nd, hb, hf, hr, hl⟩ := R
  unfold setAddHashed setAddHashedIn
  refine wpAny_holding (wpAny_bind (wpAny_setState_of ho hd hf ?_))
  dsimp only
  rw [byScan_of hv hb el]
  simp only [↓reduceIte]
  unfold setAddByScan
  refine wpAny_bind (wpAny_bind (wpAny_rule (wpAny_bind (wpAny_setScan_of hk ho hd hf el ?_))))
  cases hfi : List.findIdx? (fun e => knd.is k e.2) es.toList with
  | some j =>
    obtain ⟨hj, pj, _⟩ := List.findIdx?_eq_some_iff_getElem.mp hfi
    have hin : k ∈ l := (mem k).2 ⟨es.toList[j], List.getElem_mem hj, pj⟩
    dsimp only
    exact wpAny_pure (wpAny_pure (hQ false s.heap (Heap.SameBut.refl a s.heap) (by rw [if_pos hin]; exact ⟨o, es, ep, t, ho, hex, hd, el, mem, sz, nd, hb, hf, hr, hl⟩)))
  | none =>
    dsimp only
    have hnk : k ∉ l := fun z => by
      obtain ⟨e, he, q⟩ := (mem k).1 z
      have c := List.findIdx?_eq_none_iff.mp hfi e he
      rw [q] at c
      cases c
    have pm := layNew_perm t es (knd.hash k) v
    have hf1 := layNew_fits t es (knd.hash k) v
    have hr1 := layNew_ris t es (knd.hash k) v hr
    have hl1 := layNew_led t es (knd.hash k) v
    generalize layNew t es (knd.hash k) v = Z at pm hf1 hr1 hl1 ⊢
    obtain ⟨es1, t1, wasDummy, gave⟩ := Z
    dsimp only at pm hf1 hr1 hl1 ⊢
    rw [Array.toList_push] at pm
    have el1 : ElemsOf knd es1.toList := (el.push hk hv).perm pm
    have mem1 : ∀ k', k' ∈ k :: l ↔ ∃ e ∈ es1.toList, knd.is k' e.2 = true := fun k' => by
      constructor
      · intro hm
        rcases List.mem_cons.mp hm with rfl | hm
        · exact ⟨(knd.hash k', v), pm.mem_iff.mpr (by simp), hk⟩
        · obtain ⟨e, he, z⟩ := (mem k').mp hm
          exact ⟨e, pm.mem_iff.mpr (List.mem_append_left _ he), z⟩
      · rintro ⟨e, he, z⟩
        rcases List.mem_append.mp (pm.mem_iff.mp he) with he | he
        · exact List.mem_cons_of_mem _ ((mem k').mpr ⟨e, he, z⟩)
        · rw [List.mem_singleton] at he
          rw [he] at z
          rw [knd.inj v k' k z hk]
          exact List.mem_cons_self ..
    have sz1 : es1.size = (k :: l).length := by
      have := pm.length_eq
      simp at this
      simp [this, sz]
    have hb1 : es1.size < scanBound := by rw [sz1]; exact room
    have hled : w.params.followText "set-order" = true ∨ t1.led = true := hl.imp id fun z => by rw [hl1]; exact z
    have nd1 : (k :: l).Nodup := List.nodup_cons.mpr ⟨hnk, nd⟩
    have hQ' : ∀ h', Heap.SameBut a s.heap h' → SG knd h' a (k :: l) → Q true { s with heap := h' } := fun h' sb r => hQ true h' sb (by rw [if_neg hnk]; exact r)
    have hgw : ∀ (b : Bool) (Q' : Unit → Shared → Prop), Q' () s → wpAny (model P w) A (match b with | true => rule "set.scan.the-table-gave-way" | false => pure ()) Q' E s := by
      intro b Q' q; cases b; exact wpAny_pure q; exact wpAny_rule q
    refine wpAny_bind (hgw gave _ ?_)
    split
    · refine wpAny_bind ?_
      rw [hashByValue_scannable 8 hv]
      refine wpAny_pure (sg_tail (knd := knd) ?_ ho hex hd el1 mem1 sz1 nd1 hb1 ?_ ?_ ?_ ?_)
      · intro b s₁ Q' q; cases b; exact wpAny_pure q; exact wpAny_rule q
      · split; exact SetTable.fits_plain_off hf1; exact hf1
      · split <;> exact hr1
      · split <;> exact hled
      · intro h' sb r; dsimp only; exact wpAny_pure (hQ' h' sb r)
    · refine wpAny_bind (wpAny_pure ?_)
      simp only [↓reduceIte]
      refine sg_tail (knd := knd) ?_ ho hex hd el1 mem1 sz1 nd1 hb1 hf1 hr1 hled ?_
      · intro b s₁ Q' q; cases b; exact wpAny_pure q; exact wpAny_rule q
      · intro h' sb r; dsimp only; exact wpAny_pure (hQ' h' sb r)
open PySem.W in
theorem sg_new {h : Heap} {a : Addr} (ho : h.get? a = some { cls := .type "set", dict := none, data := .set #[] 0 (.fresh 0 0 (!w.params.followText "set-order")) }) : SG knd h a [] :=
  ⟨_, #[], 0, _, ho, ⟨rfl, rfl, rfl⟩, rfl, (fun e he => by simp at he), (fun k => by simp), rfl, List.nodup_nil, (by decide), rfl, List.Pairwise.nil, by
    show _ ∨ (!w.params.followText "set-order") = true
    cases w.params.followText "set-order"
    · exact .inr rfl
    · exact .inl rfl⟩
/-- the keys of an iterator are put in, one by one -/
theorem sg_loop {I : Addr} {fp wr : List Addr} {G : Array GenState → Array GenState → Prop} {n : Nat} {Pv : Nat → Value → Prop} {St : Nat → Shared → Prop} {R : Result → Shared → Prop}
    (W : WalksS P w A.in1 I fp wr G n Pv St) (S : Addr) (hSf : S ∉ fp) (ks : List κ) (hn : n = ks.length) (hb : ks.length + 1 < scanBound) (hval : ∀ i v, Pv i v → ∃ k, ks[i]? = some k ∧ knd.is k v = true ∧ v.scannable = true) :
    ∀ (m i : Nat) (s : Shared), n - i = m → i ≤ n → St i s → (∃ l, l.length ≤ i ∧ SG knd s.heap S l ∧ ∀ x, x ∈ l ↔ x ∈ ks.take i) →
      (∀ s' l, Moved (S :: wr) G s s' → SG knd s'.heap S l → (∀ x, x ∈ l ↔ x ∈ ks) → R (.ok (.ret .none)) s') →
      codeAny (model P w) A (.builtin "set.update.loop" ⟨[.ref S, .ref I], []⟩) R s := by
  have hSw : S ∉ wr := fun h => hSf (W.sub _ h)
  have hsub : ∀ b ∈ wr, b ∈ S :: wr := fun b hb => List.mem_cons_of_mem _ hb
  intro m
  induction m with
  | zero =>
    intro i s hk' hi hst ⟨l, hl, hS, hm⟩ hR
    have hin : i = n := by omega
    subst hin
    refine codeAny_builtin F.entry_set_update_loop ?_
    rw [Around.under_plainId F.plain_set_update_loop _]
    refine wpAny_bind (m := pyNext (.ref I)) (W.done s _ _ hst fun s' hmv => ?_)
    have e : ks.take i = ks := List.take_of_length_le (by omega)
    rw [e] at hm
    exact wpAny_pure (hR s' l (hmv.mono hsub) (hS.at fun o e => hmv.heap S o hSw e) hm)
  | succ m ih =>
    intro i s hk' hi hst ⟨l, hl, hS, hm⟩ hR
    have hlt : i < n := by omega
    refine codeAny_builtin F.entry_set_update_loop ?_
    rw [Around.under_plainId F.plain_set_update_loop _]
    refine wpAny_bind (m := pyNext (.ref I)) (W.item i s _ _ hlt hst fun v s' hP hst' hmv => ?_)
    obtain ⟨z, hz, hk, hv⟩ := hval i v hP
    have hS' : SG knd s'.heap S l := hS.at fun o e => hmv.heap S o hSw e
    refine wpAny_bind (m := holding [v] (setAdd S v)) (wpAny_holding ?_)
    unfold setAdd
    refine wpAny_holding ?_
    refine wpAny_bind (knd.pyHash (k := z) hk ?_)
    refine sg_add (s := { s' with toks := s'.toks + 1 }) hk hv hS' (by omega) fun b h' hsb hS2 => ?_
    refine wpAny_pure ⟨plainId_quiet F.plain_set_update_loop _, ih (i + 1) _ (by omega) hlt (W.frame _ s' _ _ hst' (Nat.le_succ _) fun b hb o e => ?_) ⟨_, ?_, hS2, fun x => ?_⟩ fun s'' l2 hm'' hS'' hx'' => ?_⟩
    · rw [hsb.2 b (fun h : b = S => hSf (by rw [← h]; exact hb))]; exact e
    · split
      · omega
      · simp only [List.length_cons]; omega
    · rw [List.take_add_one, hz]
      simp only [Option.toList, List.mem_append, List.mem_singleton]
      split
      · rename_i hc
        rw [hm x]
        constructor
        · exact .inl
        · rintro (h | rfl)
          · exact h
          · exact (hm x).mp hc
      · rw [List.mem_cons, hm x]
        exact ⟨fun h => h.symm, fun h => h.symm⟩
    · refine hR s'' l2 (Moved.trans W.gtrans ((hmv.mono hsub).then_heap (Nat.le_succ _) fun b o hb e => ?_) hm'') hS'' hx''
      rw [hsb.2 b (fun h : b = S => hb (by rw [h]; exact List.mem_cons_self))]; exact e
/-- what can be gone through to fill a set with the keys ks -/
def SSrc (P : Program) (w : World) (E : Value → Shared → Prop) (knd : PySem.KeyKind P w κ) (h0 : Heap) (v : Value) (ks : List κ) : Prop :=
  ∀ (A' : Around) (s' : Shared) (S : Addr) (Q' : Unit → Shared → Prop), A'.handled = none → (∀ b u, h0.get? b = some u → s'.heap.get? b = some u) → h0.objs.size ≤ S → S < s'.heap.objs.size → SG knd s'.heap S [] →
    (∀ h' tk l, SG knd h' S l → (∀ x, x ∈ l ↔ x ∈ ks) → (∀ b u, b ≠ S → s'.heap.get? b = some u → h'.get? b = some u) → Q' () { s' with heap := h', toks := tk }) →
    wpAny (model P w) A' (pyIter v >>= fun i => runValue (.builtin "set.update.loop" ⟨[.ref S, i], []⟩) >>= fun _ => pure ()) Q' E s'
theorem ssrc_walk {h0 : Heap} {v : Value} {ks : List κ} {o : Obj} {ax : List Addr} {Pv : Nat → Value → Prop} {St : Addr → Nat → Heap → Prop} (hax : ∀ b ∈ ax, b < h0.objs.size) (hof : o.isFreed = false)
    (it : ∀ (A' : Around) (s' : Shared) (Q' : Value → Shared → Prop), (∀ b u, h0.get? b = some u → s'.heap.get? b = some u) → Q' (.ref s'.heap.objs.size) { s' with heap := s'.heap.push o } → wpAny (model P w) A' (pyIter v) Q' E s')
    (W : ∀ (A' : Around) (I : Addr), A'.handled = none → I ∉ ax → Walks P w A' I (I :: ax) [I] ks.length Pv (St I)) (hst : ∀ h' I, (∀ b u, h0.get? b = some u → h'.get? b = some u) → h'.get? I = some o → St I 0 h')
    (hb : ks.length + 1 < scanBound) (hval : ∀ i v, Pv i v → ∃ k, ks[i]? = some k ∧ knd.is k v = true ∧ v.scannable = true) : SSrc P w E knd h0 v ks := by
  intro A' s' S Q' hh ext hS1 hS2 hS hQ
  refine wpAny_bind (it A' s' _ ext ?_)
  refine wpAny_bind (wpAny_runValue ?_)
  have hI : s'.heap.objs.size ∉ ax := fun h => by
    exact absurd (Nat.lt_of_lt_of_le (hax _ h) (Nat.le_trans hS1 (Nat.le_of_lt hS2))) (Nat.lt_irrefl _)
  have hg : (s'.heap.push o).get? s'.heap.objs.size = some o := Heap.get?_push_size _ hof
  have hSf : S ∉ s'.heap.objs.size :: ax := fun h => by
    rcases List.mem_cons.mp h with h | h
    · exact Nat.ne_of_lt hS2 h
    · exact absurd (Nat.lt_of_lt_of_le (hax _ h) hS1) (Nat.lt_irrefl _)
  refine sg_loop (s := { s' with heap := s'.heap.push o }) ((W A'.in1 s'.heap.objs.size (by simpa using hh) hI).toS) S hSf ks rfl hb hval (ks.length - 0) 0 (by omega) (Nat.zero_le _) (hst _ _ (fun b u e => Heap.get?_push_of_some _ (ext b u e)) hg)
    ⟨[], Nat.le_refl 0, hS.at fun o e => Heap.get?_push_of_some _ e, fun x => by simp⟩ fun s2 l hm hl hx => ?_
  obtain ⟨h2, g2, d2, tk2, os2⟩ := s2
  have eg : g2 = s'.gens := hm.gens
  have ed : d2 = s'.drawn := hm.drawn
  have eo : os2 = s'.os := hm.os
  subst eg ed eo
  refine wpAny_pure (hQ h2 tk2 l hl hx fun b u ne e => hm.heap b u (fun hc => ?_) (Heap.get?_push_of_some _ e))
  have hlt := Heap.lt_size e
  rcases List.mem_cons.mp hc with h | h
  · exact ne h
  · rw [List.mem_singleton] at h
    exact Nat.ne_of_lt hlt h
abbrev kitSet (w : World) : Obj := { cls := .type "set", dict := none, data := .set #[] 0 (.fresh 0 0 (!w.params.followText "set-order")) }
theorem sg_from {id : String} {v : Value} {T : String} {ks : List κ} {h0 : Heap} {S : Addr} {Q : Unit → Shared → Prop} (hT : s.TypeIs v T) (hh : A.handled = none)
    (h1 : isSubtype (.type T) (.type "set") = pure false) (h2 : isSubtype (.type T) (.type "frozenset") = pure false) (h3 : (Value.type T == Value.type "dict") = false)
    (src : SSrc P w E knd h0 v ks) (ext : ∀ b u, h0.get? b = some u → s.heap.get? b = some u) (hS1 : h0.objs.size ≤ S) (hS2 : S < s.heap.objs.size) (hS : SG knd s.heap S [])
    (hQ : ∀ h' tk l, SG knd h' S l → (∀ x, x ∈ l ↔ x ∈ ks) → (∀ b u, b ≠ S → s.heap.get? b = some u → h'.get? b = some u) → Q () { s with heap := h', toks := tk }) :
    wpAny (model P w) A (Builtin.Frozenset.updateFrom id S v) Q E s := by
  unfold Builtin.Frozenset.updateFrom
  refine wpAny_bind (m := Builtin.Frozenset.isAnySet v) (wpAny_bind (m := isInstance v (.type "set")) (wpAny_isInstance hT h1 (wpAny_isInstance hT h2 ?_)))
  simp only [Bool.false_eq_true, if_false]
  refine wpAny_bind (wpAny_typeOf hT ?_)
  simp only [h3, Bool.false_eq_true, if_false]
  exact src A s S Q hh ext hS1 hS2 hS hQ
theorem call_set_src {v : Value} {T : String} {ks : List κ} {Q : Value → Shared → Prop} (hh : A.handled = none) (hT : ∀ s' : Shared, (∀ b u, s.heap.get? b = some u → s'.heap.get? b = some u) → s'.TypeIs v T)
    (h1 : isSubtype (.type T) (.type "set") = pure false) (h2 : isSubtype (.type T) (.type "frozenset") = pure false) (h3 : (Value.type T == Value.type "dict") = false) (src : SSrc P w E knd s.heap v ks)
    (h : ∀ (h' : Heap) (tk : Nat) (l : List κ), SG knd h' s.heap.objs.size l → (∀ x, x ∈ l ↔ x ∈ ks) → (∀ b o, s.heap.get? b = some o → h'.get? b = some o) → Q (.ref s.heap.objs.size) { s with heap := h', toks := tk }) :
    wpAny (model P w) A (call (.type "set") [v]) Q E s := by
  obtain ⟨c, tl, hmro⟩ := F.called_set.mro
  have hmade := F.called_set.made
  have hsub := F.called_set.sub
  refine wpAny_call (codeAny_of_tree ?_)
  change wpAny _ _ (callAny (.type "set") ⟨[v], []⟩) _ _ _
  refine wpAny_pure ⟨Code.quiet_builtin _ (by decide +kernel), codeAny_builtin F.entry_type_call ?_⟩
  rw [Around.under_plain (weight_type_call_type "set" [v] []) rfl]
  have q1 := F.called_set.notType
  have q2 := F.called_set.canCreate
  have hct := F.typeCall_set_1 v
  repeat (any_goals (first | assumption | wp_step))
  refine codeAny_mono (code_set_led1 v (E := E) (Q₁ := fun obj s₁ => obj = .ref s.heap.objs.size ∧ s₁ = { s with heap := s.heap.push (kitSet w) }) ⟨rfl, rfl⟩) fun r s₁ hr => ?_
  cases r with
  | error e => exact hr
  | ok fl =>
    cases fl with
    | ret obj =>
      obtain ⟨rfl, rfl⟩ := hr
      have hS : (s.heap.push (kitSet w)).get? s.heap.objs.size = some (kitSet w) := Heap.get?_push_size _ rfl
      have hTs : Shared.TypeIs { s with heap := s.heap.push (kitSet w) } (.ref s.heap.objs.size) "set" := ⟨_, hS, rfl⟩
      have hli := F.called_set.init.lookup
      have hbi := F.called_set.init.bind (.ref s.heap.objs.size)
      repeat (any_goals (first | assumption | wp_step))
      refine codeAny_mono (codeAny_call_builtin (R := wants (fun r s₂ => r = .none ∧ ∃ h' tk l, s₂ = { s with heap := h', toks := tk } ∧ SG knd h' s.heap.objs.size l ∧ (∀ x, x ∈ l ↔ x ∈ ks) ∧
          (∀ b o, s.heap.get? b = some o → h'.get? b = some o)) E) F.called_set.init.plain F.entry_set_init (check_set_init_1 hTs ?_)) fun r₂ s₂ hr₂ => ?_
      · unfold Builtin.«set.__init__» noKeywords
        generalize hUF : Builtin.Frozenset.updateFrom = UF
        wp_walk
        subst hUF
        refine sg_from (knd := knd) (ks := ks) (h0 := s.heap) (T := T) (hT _ fun b u e => Heap.get?_push_of_some _ e) (by simpa using hh) h1 h2 h3 src (fun b u e => Heap.get?_push_of_some _ e) (Nat.le_refl _) ?_ (sg_new hS) fun h' tk l hl hx hk => ?_
        · show s.heap.objs.size < (s.heap.push (kitSet w)).objs.size
          rw [Heap.size_push]; exact Nat.lt_succ_self _
        · refine wpAny_pure ⟨rfl, h', tk, l, rfl, hl, hx, fun b o e => hk b o (Nat.ne_of_lt (Heap.lt_size e)) (Heap.get?_push_of_some _ e)⟩
      · cases r₂ with
        | error e => exact hr₂
        | ok fl₂ =>
          cases fl₂ with
          | ret r =>
            obtain ⟨rfl, h', tk, l, rfl, hS', hx, hk'⟩ := hr₂
            repeat (any_goals (first | assumption | wp_step))
            exact h _ _ _ hS' hx hk'
          | _ => exact hr₂.elim
    | _ => exact hr.elim
end
end G
/-! G8: contexts; each form of expression keeps its wish. -/
namespace G
open PySem L2
/-- a def's promise, whatever lists are being made around -/
def spOf (K : PySem.W.Frag) (mg : Str → Option Value) (φ : FSp) : Sp := fun vs H Q E => ∃ B ds S Qd Xd, RDs ⟨K, mg, B⟩ S H ds vs ∧ RS ⟨K, mg, B⟩ S H ∧ φ ds S Qd Xd ∧ Cont ⟨K, mg, B⟩ S H Qd Q ∧ ContX ⟨K, mg, B⟩ S H Xd E
def kdV (mg : Str → Option Value) : Kd → Value → Prop
  | .b n, u => u = .type n
  | .o C, u => ∃ c, mg C = some (.ref c) ∧ u = .ref c
/-- what isinstance asks of an own class -/
def InsTy (K : PySem.W.Frag) (c : Addr) : Prop := Cls K c ∧ PySem.W.findIn K (.ref c) "__class__" = some (some (.builtin "object.__class__")) ∧
  PySem.W.specialIn K (.builtin "object.__class__") "__get__" = some (some (.builtin "getset_descriptor.__get__")) ∧ PySem.W.takesIn K (.builtin "object.__class__") = some true ∧ PySem.W.mroIn K c (.type "object") = some true
structure GE (T : Tab) (K : PySem.W.Frag) (mg : Str → Option Value) (P : Program) (w : World) (base : Heap) (k : Nat) : Prop where
  con : ∀ x d, T.con x = some d → ∃ v u, mg x = some u ∧ RelV v u ∧ ∀ B S H, RD ⟨K, mg, B⟩ S H d v
  fns : ∀ f φ, T.fn f = some φ → ∃ a fd ps, mg f = some (.ref a) ∧ PySem.W.keepIn K (.ref a) = true ∧ FnG P w K mg base (L2.CX P w) k a fd ps (spOf K mg φ) ∧
    (∀ df, T.dfs f df → ∃ dvs us, Binds K fd ps us ∧ Vals dvs us ∧ ∀ B S H, RDs ⟨K, mg, B⟩ S H df dvs) ∧
    ∀ n ks pl, T.kw f n ks = some pl → ∃ gU gV, KBn K fd ps n ks gU gV ∧ ∀ B S H ds us vs zs, ds.length = n → us.length = ks.length → RDs ⟨K, mg, B⟩ S H ds vs → RDs ⟨K, mg, B⟩ S H us zs → RDs ⟨K, mg, B⟩ S H (pick pl (ds ++ us)) (gV vs zs)
  mes : ∀ C m φ, T.me C m = some φ → ∃ c a fd ps, mg C = some (.ref c) ∧ Cls K c ∧ Meth K c m a ∧ FnG P w K mg base (L2.CX P w) k a fd ps (spOf K mg φ) ∧ Binds K fd ps []
  mks : ∀ C φ, T.me C ini = some φ → ∃ c a fd ps, mg C = some (.ref c) ∧ Mk K c a ∧ FnG P w K mg base (L2.CX P w) k a fd ps (spOf K mg φ) ∧
    ∀ df, T.dfs C df → ∃ dvs us, Binds K fd ps us ∧ Vals dvs us ∧ ∀ B S H, RDs ⟨K, mg, B⟩ S H df dvs
  fld : ∀ C f, f ∈ T.flds C → ∃ c, mg C = some (.ref c) ∧ Cls K c ∧ NoAttr K c f
  isi : ∀ k t kv tv, kOk k = true → tOk t = true → kdV mg k kv → kdV mg t tv → PySem.W.kitOne K kv tv = some (isiB k t) ∧ ∀ C c, k = .o C → mg C = some (.ref c) → InsTy K c
  blt : ∀ x : Str, x ∈ (["len", "all", "any", "abs", "max", "min", "int", "str", "tuple", "list", "divmod", "isinstance", "range", "enumerate", "zip", "bool", "dict", "sorted", "set", "repr", "sum", "reversed"] : List Str) → mg x = none
/-- a context that fits: c the names, ex what is wanted of an error, (S0, H0) where it began -/
structure Good (T : Tab) (k : Nat) (g : Gx) (X : Cx) (c : Sc) (ex : QX) (S0 : Sto) (H0 : Hp) : Prop where
  gK : X.K = g.K
  gm : X.mg = g.mg
  N : X.N = c.N
  sc : X.env.scope = c.sc
  fnk : X.fn = c.fn
  nd : X.N.Nodup
  calm : X.calm = true
  room : Room (k + 1) X.A
  gds : X.A.guards = some []
  ge : GE T g.K g.mg X.prog X.w X.base k
  pass : Passes (L2.CX X.prog X.w) X (EX g ex S0 H0)
theorem _root_.L2.PE.imp {X : Cx} {e : Expr} {t t' : TE} (h : PE X e t) (f : ∀ σ H Q, t' σ H Q → t σ H Q) : PE X e t' := ⟨fun pins s σ H Q I q => h.run pins s σ H Q I (f σ H Q q)⟩
theorem _root_.L2.PT.imp {X : Cx} {e : Expr} {t t' : TT} (h : PT X e t) (f : ∀ σ H Q, t' σ H Q → t σ H Q) : PT X e t' := ⟨fun pins s σ H Q I q => h.run pins s σ H Q I (f σ H Q q)⟩
theorem _root_.L2.PW.imp {X : Cx} {e : Expr} {t t' : TT} (h : PW X e t) (f : ∀ σ H Q, t' σ H Q → t σ H Q) : PW X e t' := ⟨fun wh pins s σ H Q I q => h.run wh pins s σ H Q I (f σ H Q q)⟩
theorem _root_.L2.PA.imp {X : Cx} {e : List Expr} {t t' : TA} (h : PA X e t) (f : ∀ σ H Q, t' σ H Q → t σ H Q) : PA X e t' := ⟨fun p pins s σ H Q I q => h.run p pins s σ H Q I (f σ H Q q)⟩
theorem _root_.L2.PI.imp {X : Cx} {tg e : Expr} {t t' : TI} (h : PI X tg e t) (f : ∀ σ H Q, t' σ H Q → t σ H Q) : PI X tg e t' := ⟨fun pins s σ H Q I q => h.run pins s σ H Q I (f σ H Q q)⟩
theorem _root_.L2.PS.imp {X : Cx} {e : Stmt} {t t' : TS} (h : PS X e t) (f : ∀ D σ H, t' D σ H → t D σ H) : PS X e t' := ⟨fun pins s σ H D I q => h.run pins s σ H D I (f D σ H q)⟩
theorem _root_.L2.PSs.imp {X : Cx} {e : List Stmt} {t t' : TS} (h : PSs X e t) (f : ∀ D σ H, t' D σ H → t D σ H) : PSs X e t' := ⟨fun pins s σ H D I q => h.run pins s σ H D I (f D σ H q)⟩
section
variable {T : Tab} {k : Nat} {g : Gx} {X : Cx} {c : Sc} {ex : QX} {S0 : Sto} {H0 : Hp}
theorem vis_of {o : Option NameKind} (h : visB o = true) : o = some .local ∨ o = some .cell ∨ o = some .free := by
  unfold visB at h
  split at h <;> first | exact .inl rfl | exact .inr (.inl rfl) | exact .inr (.inr rfl) | cases h
theorem gl_of {o : Option NameKind} (h : glB o = true) : o = some .globalImplicit := by
  unfold glB at h
  split at h <;> first | rfl | cases h
theorem Good.gl (gd : Good T k g X c ex S0 H0) {x : Str} (h : glB (c.kd x) = true) : Gl X x := by
  show List.lookup x X.env.scope.names = _
  rw [gd.sc]
  exact gl_of h
theorem s_loc (gd : Good T k g X c ex S0 H0) {i : Nat} {x : Str} {pos : Pos} (h1 : c.N[i]? = some x) (h2 : visB (c.kd x) = true) (h3 : (x == dbg) = false) (h4 : (x == cdt) = false) :
    PE X (.Name x pos) (RE g S0 H0 fun ρ S Q => ∃ d, ρ[i]? = some (some d) ∧ Q d S) := by
  have hv : Vis X.env.scope x := by rw [gd.sc]; exact vis_of h2
  exact (pe_var (by rw [gd.N]; exact h1) hv h3 h4).imp fun σ H Q ⟨ρ, S, Qd, r, ⟨d, e, q⟩, kk⟩ => let ⟨v, e', rd⟩ := r.sl i d e; ⟨v, e', kk.here r.rs rd q⟩
theorem s_const {d : D} {cst : Const} {j : Nat} {pos : Pos} (h : mC d cst = true) : PE X (.Constant cst j pos) (RE g S0 H0 fun _ S Q => Q d S) := by
  have fin : ∀ v, (∀ S H, RD g S H d v) → ∀ σ H Q, RE g S0 H0 (fun _ S Q => Q d S) σ H Q → tC v σ H Q := fun v rd σ H Q ⟨ρ, S, Qd, r, q, kk⟩ => kk.here r.rs (rd S H) q
  unfold mC at h
  split at h
  · exact pe_non.imp (fin .non fun _ _ => rd_non)
  · rw [beq_iff_eq] at h; subst h
    exact pe_bl.imp (fin _ fun _ _ => rd_bl)
  · rw [beq_iff_eq] at h; subst h
    exact pe_int.imp (fin _ fun _ _ => rd_int)
  · rw [Bool.and_eq_true, decide_eq_true_eq, List.all_eq_true] at h
    obtain ⟨h1, h2⟩ := h
    subst h1
    exact pe_str.imp (fin _ fun _ _ => rd_str fun c hc => by simpa using h2 c hc)
  · cases h
theorem s_glob (gd : Good T k g X c ex S0 H0) {x : Str} {pos : Pos} (h2 : glB (c.kd x) = true) (h3 : (x == dbg) = false) : PE X (.Name x pos) (RE g S0 H0 fun _ S Q => ∃ d, T.con x = some d ∧ Q d S) := by
  refine ⟨fun pins s σ H Q I h => ?_⟩
  obtain ⟨ρ, S, Qd, r, ⟨d, e, q⟩, kk⟩ := h
  obtain ⟨v, u, hm, rv, rd⟩ := gd.ge.con x d e
  exact (pe_glob (gd.gl h2) (by rw [gd.gm]; exact hm) rv h3).run pins s σ H Q I (kk.here r.rs (rd g.B S H) q)
theorem re_two {wa wb : Sl → Sto → QV → Prop} {o : D → D → Sto → QV → Prop} {σ : L2.St} {H : Hp} {Q : VK} (h : RE g S0 H0 (fun ρ S Q => wa ρ S fun x S1 => wb ρ S1 fun y S2 => o x y S2 Q) σ H Q) :
    tOp (R2d g o) (RE g S0 H0 wa) (RE g S0 H0 wb) σ H Q := by
  obtain ⟨ρ, S, Qd, r, h, kk⟩ := h
  exact ⟨ρ, S, _, r, h, fun x d1 S1 H1 rd1 rs1 st1 q1 => ⟨ρ, S1, _, r.step rs1 st1, q1, fun y d2 S2 H2 rd2 rs2 st2 q2 => ⟨d1, d2, S2, Qd, rd1.mono st2, rd2, rs2, q2, kk.from (st1.trans st2)⟩⟩⟩
theorem s_bin {wa wb : Sl → Sto → QV → Prop} (gd : Good T k g X c ex S0 H0) {a b : Expr} {op : Operator} {pos : Pos} (ha : PE X a (RE g S0 H0 wa)) (hb : PE X b (RE g S0 H0 wb)) :
    PE X (.BinOp a op b pos) (RE g S0 H0 fun ρ S Q => wa ρ S fun x S1 => wb ρ S1 fun y S2 => opS op x y S2 Q) := (pe_op (op_sound gd.gK op) ha hb).imp fun _ _ _ h => re_two h
theorem s_neg {wa : Sl → Sto → QV → Prop} {a : Expr} {pos : Pos} (ha : PE X a (RE g S0 H0 wa)) :
    PE X (.UnaryOp .USub a pos) (RE g S0 H0 fun ρ S Q => wa ρ S fun x S1 => match x with | .int i => Q (.int (-i)) S1 | _ => False) := by
  refine (pe_un un_neg ha).imp fun σ H Q h => ?_
  obtain ⟨ρ, S, Qd, r, h, kk⟩ := h
  refine ⟨ρ, S, _, r, h, fun x d1 S1 H1 rd1 rs1 st1 q1 => ?_⟩
  split at q1
  · exact ⟨_, rd1.ofInt, (kk.from st1).here rs1 rd_int q1⟩
  · exact q1.elim
theorem units64 (gd : Good T k g X c ex S0 H0) : X.A.units + 64 < cLine := by have := gd.room.un; omega
theorem s_cmp {wa wb : Sl → Sto → QV → Prop} (gd : Good T k g X c ex S0 H0) {a b : Expr} {op : CmpOp} {pos : Pos} (ha : PE X a (RE g S0 H0 wa)) (hb : PE X b (RE g S0 H0 wb)) (hm : behindInMarks op b = false) :
    PE X (.Compare a [op] [b] pos) (RE g S0 H0 fun ρ S Q => wa ρ S fun x S1 => wb ρ S1 fun y S2 => cmpS op x y S2 Q) := (pe_cmpR (cmp_sound gd.gK (units64 gd) op) ha hb hm).imp fun _ _ _ h => re_two h
theorem s_cmpT {wa wb : Sl → Sto → QV → Prop} (gd : Good T k g X c ex S0 H0) {a b : Expr} {op : CmpOp} {pos : Pos} (ha : PE X a (RE g S0 H0 wa)) (hb : PE X b (RE g S0 H0 wb)) (hm : behindInMarks op b = false) :
    PT X (.Compare a [op] [b] pos) (RT g S0 H0 (mkV fun ρ S Q => wa ρ S fun x S1 => wb ρ S1 fun y S2 => cmpS op x y S2 Q).t) := by
  refine (pt_cmpR (cmp_sound gd.gK (units64 gd) op) ha hb hm).imp fun σ H Q h => ?_
  obtain ⟨ρ, S, Qd, r, h, kk⟩ := h
  refine ⟨ρ, S, _, r, h, fun x d1 S1 H1 rd1 rs1 st1 q1 => ⟨ρ, S1, _, r.step rs1 st1, q1, fun y d2 S2 H2 rd2 rs2 st2 q2 => ⟨d1, d2, S2, _, rd1.mono st2, rd2, rs2, cmpS_bl q2, ?_⟩⟩⟩
  rintro v d S3 H3 rd3 rs3 st3 ⟨⟨b, rfl⟩, b', hb', q3⟩
  rw [rd3.ofBl]
  cases hb'
  exact ⟨_, rfl, kk _ S3 H3 rs3 ((st1.trans st2).trans st3) q3⟩
theorem s_cmp2 {wa wb wc : Sl → Sto → QV → Prop} (gd : Good T k g X c ex S0 H0) {a b d : Expr} {op op' : CmpOp} {pos : Pos} (ha : PE X a (RE g S0 H0 wa)) (hb : PE X b (RE g S0 H0 wb)) (hd : PE X d (RE g S0 H0 wc)) (hm : lastMarks [op, op'] [b, d] = false) :
    PE X (.Compare a [op, op'] [b, d] pos) (RE g S0 H0 fun ρ S Q => wa ρ S fun x S1 => wb ρ S1 fun y S2 => cmpS op x y S2 fun z S3 => ∃ k, z = .bl k ∧ if k = true then wc ρ S3 fun u S4 => cmpS op' y u S4 Q else Q (.bl false) S3) := by
  refine (pe_chain (cmp_sound gd.gK (units64 gd) op) (cmp_sound gd.gK (units64 gd) op') ha hb hd hm).imp fun σ H Q h => ?_
  obtain ⟨ρ, S, Qd, r, h, kk⟩ := h
  refine ⟨ρ, S, _, r, h, fun x d1 S1 H1 rd1 rs1 st1 q1 => ⟨ρ, S1, _, r.step rs1 st1, q1, fun y d2 S2 H2 rd2 rs2 st2 q2 => ⟨d1, d2, S2, _, rd1.mono st2, rd2, rs2, q2, ?_⟩⟩⟩
  rintro v z S3 H3 rd3 rs3 st3 ⟨b, rfl, q3⟩
  refine ⟨b, rd3.ofBl, ?_⟩
  cases b with
  | true => exact ⟨ρ, S3, _, ((r.step rs1 st1).step rs2 st2).step rs3 st3, q3, fun u d4 S4 H4 rd4 rs4 st4 q4 => ⟨d2, d4, S4, Qd, (rd2.mono st3).mono st4, rd4, rs4, q4, kk.from (((st1.trans st2).trans st3).trans st4)⟩⟩
  | false => exact (kk.from ((st1.trans st2).trans st3)).here rs3 rd_bl q3
theorem s_cmp2T {wa wb wc : Sl → Sto → QV → Prop} (gd : Good T k g X c ex S0 H0) {a b d : Expr} {op op' : CmpOp} {pos : Pos} (ha : PE X a (RE g S0 H0 wa)) (hb : PE X b (RE g S0 H0 wb)) (hd : PE X d (RE g S0 H0 wc)) (hm : lastMarks [op, op'] [b, d] = false) :
    PT X (.Compare a [op, op'] [b, d] pos) (RT g S0 H0 (mkV fun ρ S Q => wa ρ S fun x S1 => wb ρ S1 fun y S2 => cmpS op x y S2 fun z S3 => ∃ k, z = .bl k ∧ if k = true then wc ρ S3 fun u S4 => cmpS op' y u S4 Q else Q (.bl false) S3).t) := by
  refine (pt_chain (cmp_sound gd.gK (units64 gd) op) (cmp_sound gd.gK (units64 gd) op') ha hb hd hm).imp fun σ H Q h => ?_
  obtain ⟨ρ, S, Qd, r, h, kk⟩ := h
  refine ⟨ρ, S, _, r, h, fun x d1 S1 H1 rd1 rs1 st1 q1 => ⟨ρ, S1, _, r.step rs1 st1, q1, fun y d2 S2 H2 rd2 rs2 st2 q2 => ⟨d1, d2, S2, _, rd1.mono st2, rd2, rs2, q2, ?_⟩⟩⟩
  rintro v z S3 H3 rd3 rs3 st3 ⟨b, rfl, q3⟩
  refine ⟨b, rd3.ofBl, ?_⟩
  cases b with
  | true =>
    refine ⟨ρ, S3, _, ((r.step rs1 st1).step rs2 st2).step rs3 st3, q3, fun u d4 S4 H4 rd4 rs4 st4 q4 => ⟨d2, d4, S4, _, (rd2.mono st3).mono st4, rd4, rs4, cmpS_bl q4, ?_⟩⟩
    rintro v5 d5 S5 H5 rd5 rs5 st5 ⟨⟨b5, rfl⟩, b', hb', q5⟩
    rw [rd5.ofBl]
    cases hb'
    exact ⟨_, rfl, kk _ S5 H5 rs5 ((((st1.trans st2).trans st3).trans st4).trans st5) q5⟩
  | false =>
    obtain ⟨b', hb', q4⟩ := q3
    cases hb'
    exact ⟨_, rfl, kk _ S3 H3 rs3 ((st1.trans st2).trans st3) q4⟩
/-! ### truth -/
theorem tru_V {d : D} {v : V} {S : Sto} {H : Hp} {b : Bool} (rs : RS g S H) (r : RD g S H d v) (h : truD S d = some b) : TruV g.K v H b := by
  have seq : ∀ xs, seqOf S d = some xs → b = !xs.isEmpty → TruV g.K v H b := fun xs e hb => by
    obtain ⟨p, vs, rfl, sq, r'⟩ := r.seq rs e
    have : (!xs.isEmpty) = !vs.isEmpty := by
      have := r'.length
      cases xs <;> cases vs <;> simp_all
    rcases sq with sq | sq
    · exact .inl ⟨vs, sq, hb.trans this⟩
    · exact .inr (.inl ⟨vs, sq, hb.trans this⟩)
  cases d with
  | non => rw [r.ofNon]; cases h; rfl
  | bl b' => rw [r.ofBl]; cases h; rfl
  | int i => rw [r.ofInt]; cases h; rfl
  | str s =>
    rw [r.ofStr.1]
    simp only [truD] at h
    split at h
    · rename_i hl
      refine ⟨by rw [mkS_len]; exact lim_size hl, ?_⟩
      have e := (Option.some.inj h).symm
      rw [e, mkS_len]
      cases s <;> simp
      intro z; omega
    · cases h
  | tup xs => simp only [truD, seqOf, Option.map_some, Option.some.injEq] at h; exact seq xs rfl h.symm
  | lst xs => simp only [truD, seqOf, Option.map_some, Option.some.injEq] at h; exact seq xs rfl h.symm
  | lsk xs => simp only [truD, seqOf, Option.map_some, Option.some.injEq] at h; exact seq xs rfl h.symm
  | obj a =>
    simp only [truD] at h
    cases e : seqOf S (.obj a) with
    | none => rw [e] at h; cases h
    | some xs => rw [e] at h; exact seq xs e (Option.some.inj h).symm
  | ty n => cases h
  | gl x => cases h
  | ins _ _ _ => cases h
  | dct _ _ => cases h
theorem s_truth (gd : Good T k g X c ex S0 H0) {w : Sl → Sto → QV → Prop} {a : Expr} (ha : PE X a (RE g S0 H0 w)) (hw : ∀ whole : Sem Value, PySem.isTrue a X.env whole = do let v ← whole; standAt a.pos; holding [v] (truthy v)) :
    PT X a (RT g S0 H0 (mkV w).t) := by
  refine (pt_truth ha hw).imp fun σ H Q h => ?_
  obtain ⟨ρ, S, Qd, r, h, kk⟩ := h
  refine ⟨ρ, S, _, r, h, fun x d1 S1 H1 rd1 rs1 st1 ⟨b, hb, q1⟩ => ⟨b, gd.gK ▸ tru_V rs1 rd1 hb, kk b S1 H1 rs1 st1 q1⟩⟩
theorem s_not (gd : Good T k g X c ex S0 H0) {w : Sl → Sto → QV → Prop} {a : Expr} {pos : Pos} (ha : PE X a (RE g S0 H0 w)) :
    PE X (.UnaryOp .Not a pos) (RE g S0 H0 fun ρ S Q => w ρ S fun d S1 => ∃ b, truD S1 d = some b ∧ Q (.bl (!b)) S1) := by
  refine (pe_notT ha).imp fun σ H Q h => ?_
  obtain ⟨ρ, S, Qd, r, h, kk⟩ := h
  exact ⟨ρ, S, _, r, h, fun x d1 S1 H1 rd1 rs1 st1 ⟨b, hb, q1⟩ => ⟨b, gd.gK ▸ tru_V rs1 rd1 hb, (kk.from st1).here rs1 rd_bl q1⟩⟩
theorem s_notT {w : Sl → Sto → (Bool → Sto → Prop) → Prop} {a : Expr} {pos : Pos} (ha : PT X a (RT g S0 H0 w)) :
    PT X (.UnaryOp .Not a pos) (RT g S0 H0 fun ρ S Q => w ρ S fun b S1 => Q (!b) S1) := by
  refine (pt_not ha).imp fun σ H Q h => ?_
  obtain ⟨ρ, S, Qd, r, h, kk⟩ := h
  exact ⟨ρ, S, _, r, h, fun b S1 H1 rs1 st1 q1 => kk _ S1 H1 rs1 st1 q1⟩
theorem s_ite {wt : Sl → Sto → (Bool → Sto → Prop) → Prop} {wa wb : Sl → Sto → QV → Prop} {t a b : Expr} {pos : Pos} (ht : PT X t (RT g S0 H0 wt)) (ha : PE X a (RE g S0 H0 wa)) (hb : PE X b (RE g S0 H0 wb)) :
    PE X (.IfExp t a b pos) (RE g S0 H0 fun ρ S Q => wt ρ S fun k S1 => if k = true then wa ρ S1 Q else wb ρ S1 Q) := by
  refine (pe_ifExp ht ha hb).imp fun σ H Q h => ?_
  obtain ⟨ρ, S, Qd, r, h, kk⟩ := h
  refine ⟨ρ, S, _, r, h, fun b S1 H1 rs1 st1 q1 => ?_⟩
  cases b with
  | true => exact ⟨ρ, S1, Qd, r.step rs1 st1, q1, kk.from st1⟩
  | false => exact ⟨ρ, S1, Qd, r.step rs1 st1, q1, kk.from st1⟩
/-! ### arguments -/
theorem star_cons {e : Expr} {es : List Expr} {env : Env} (h : noStar e = true) : starEach (e :: es) env = (false, eval e env) :: starEach es env := by
  cases e <;> first | rfl | cases h
theorem s_nil : PA X [] (RA g S0 H0 fun _ S Q => Q [] S) := pa_nil.imp fun σ H Q ⟨ρ, S, Qd, r, h, kk⟩ => kk [] [] S H RDs.nil r.rs (Step.refl S H) h
theorem s_cons {w : Sl → Sto → QV → Prop} {ws : Sl → Sto → (List D → Sto → Prop) → Prop} {e : Expr} {es : List Expr} (he : PE X e (RE g S0 H0 w)) (hes : PA X es (RA g S0 H0 ws)) (hn : noStar e = true) :
    PA X (e :: es) (RA g S0 H0 fun ρ S Q => w ρ S fun d S1 => ws ρ S1 fun ds S2 => Q (d :: ds) S2) := by
  refine (pa_cons he hes (star_cons hn)).imp fun σ H Q h => ?_
  obtain ⟨ρ, S, Qd, r, h, kk⟩ := h
  exact ⟨ρ, S, _, r, h, fun x d S1 H1 rd1 rs1 st1 q1 => ⟨ρ, S1, _, r.step rs1 st1, q1, fun vs ds S2 H2 rd2 rs2 st2 q2 => kk _ _ S2 H2 (RDs.cons (rd1.mono st2) rd2) rs2 (st1.trans st2) q2⟩⟩
end
end G
/-! G9: calls, objects, items, displays. -/
namespace G
open PySem L2
section
variable {T : Tab} {k : Nat} {g : Gx} {X : Cx} {c : Sc} {ex : QX} {S0 : Sto} {H0 : Hp}
theorem star_any {pos : Pos} {env : Env} : ∀ {es : List Expr}, es.all noStar = true → (backTo pos (starEach es env)).any (·.1) = false
  | [], _ => rfl
  | e :: es, h => by
    rw [List.all_cons, Bool.and_eq_true] at h
    rw [star_cons h.1]
    show (false || _) = false
    rw [Bool.false_or]
    exact star_any h.2
theorem contX_of {S S1 : Sto} {H H1 : Hp} {ρ : Sl} {σ : L2.St} (r : Rl g S0 H0 ρ S σ H) (st : Step S H S1 H1) : ContX g S1 H1 ex (EX g ex S0 H0) := fun e c dd S' H' rx rs' st' q => ⟨e, S', rx, rs', (r.st.trans st).trans st', q⟩
theorem s_call (gd : Good T k g X c ex S0 H0) {f : Str} {es : List Expr} {df : List D} {ws : Sl → Sto → (List D → Sto → Prop) → Prop} {p pos : Pos} (hg : glB (c.kd f) = true) (hd : (f == dbg) = false) (ha : PA X es (RA g S0 H0 ws)) (hn : es.all noStar = true)
    (h0 : es = [] → ws = fun _ S Q => Q [] S) :
    PE X (.Call (.Name f p) es [] pos) (RE g S0 H0 fun ρ S Q => T.dfs f df ∧ ∃ φ, T.fn f = some φ ∧ ws ρ S fun ds S1 => φ (ds ++ df) S1 Q ex) := by
  obtain ⟨K, mg, B⟩ := g
  have e1 : X.K = K := gd.gK
  have e2 : X.mg = mg := gd.gm
  subst e1 e2
  refine ⟨fun pins s σ H Q I h => ?_⟩
  obtain ⟨ρ, S, Qd, r, ⟨hdf, φ, hφ, h⟩, kk⟩ := h
  obtain ⟨a, fd, ps, hm, kp, F, hb, _⟩ := gd.ge.fns f φ hφ
  obtain ⟨dvs, us, b, vv, rdf⟩ := hb df hdf
  have rm := gd.room.mono (Nat.le_succ k)
  cases es with
  | nil =>
    rw [h0 rfl] at h
    refine wpAny_Call_Name_kw (ld_glob I (gd.gl hg) hm ?_ hd)
    have q : spOf X.K X.mg φ ([] ++ dvs) H Q (EX ⟨X.K, X.mg, B⟩ ex S0 H0) := ⟨B, [] ++ df, S, Qd, ex, rdf B S H, r.rs, h, kk, contX_of r (Step.refl S H)⟩
    have hl : ([] ++ us).length = ps.length := by rw [← F.many _ _ _ _ q, List.nil_append, List.nil_append]; exact vv.length.symm
    exact PySem.W.callWith_K0 I.kIn kp (run_g (args := ⟨[], []⟩) F gd.gds rm (b s [] I.kIn hl) gd.pass I vv q)
  | cons e es =>
    rw [List.all_cons, Bool.and_eq_true] at hn
    refine wpAny_Call_Name_kw (ld_glob I (gd.gl hg) hm ?_ hd)
    have q0 : RA ⟨X.K, X.mg, B⟩ S0 H0 ws σ H fun vs H1 => spOf X.K X.mg φ (vs ++ dvs) H1 Q (EX ⟨X.K, X.mg, B⟩ ex S0 H0) :=
      ⟨ρ, S, _, r, h, fun vs ds S1 H1 rds rs1 st1 q1 => ⟨B, ds ++ df, S1, Qd, ex, rds.append (rdf B S1 H1), rs1, q1, kk.from st1, contX_of r st1⟩⟩
    refine PySem.W.callWith_K (h₀ := X.base) I.ok.mod.kin kp (thn (ha.run pos pins s σ H _ I q0) fun as s1 ⟨vs, H1, I1, rv, q⟩ => ⟨I1.kIn, ?_⟩) (star_cons hn.1) (star_any hn.2)
    have r2 := rv.append vv
    have hl : (as ++ us).length = ps.length := by rw [← r2.length]; exact F.many _ _ _ _ q
    exact run_g (args := ⟨as, []⟩) F gd.gds rm (b s1 as I1.kIn hl) gd.pass I1 r2 q
theorem RD.sub {g : Gx} {S S' : Sto} {H : Hp} (h : Sub S' S) {d : D} {v : V} (r : RD g S H d v) : RD g S' H d v := by
  have : Step S H S' H := fun a o ha hs => ⟨ha, by
    cases e : S' a with
    | none => rfl
    | some o' => rw [h a o' e] at hs; cases hs⟩
  exact r.mono this
theorem RS.sub {g : Gx} {S S' : Sto} {H : Hp} (h : Sub S' S) (rs : RS g S H) : RS g S' H := by
  have nn : ∀ a, S a = none → S' a = none := fun a hs => by
    cases e : S' a with
    | none => rfl
    | some o' => rw [h a o' e] at hs; cases hs
  have st : Step S H S' H := fun a o ha hs => ⟨ha, nn a hs⟩
  refine ⟨fun a x hx => ?_, fun b hb => ⟨nn b (rs.2 b hb).1, (rs.2 b hb).2⟩⟩
  obtain ⟨nb, q⟩ := rs.1 a x (h a x hx)
  refine ⟨nb, ?_⟩
  cases x with
  | lst xs => obtain ⟨vs, h1, r⟩ := q; exact ⟨vs, h1, r.mono st⟩
  | ins C fs => obtain ⟨c, dx, gs, m, h1, k1, o1, r⟩ := q; exact ⟨c, dx, gs, m, h1, ⟨nn _ k1.1, k1.2⟩, o1, r.mono st⟩
  | dct kvs => obtain ⟨gs, h1, r⟩ := q; exact ⟨gs, h1, r.mono st⟩
theorem Sub.del (S : Sto) (a : Addr) : Sub (S.del a) S := fun b o e => by
  unfold Sto.del at e
  split at e
  · cases e
  · exact e
theorem Step.sub {S S' : Sto} {H : Hp} (h : Sub S' S) : Step S H S' H := fun a o ha hs => ⟨ha, by
  cases e : S' a with
  | none => rfl
  | some o' => rw [h a o' e] at hs; cases hs⟩
theorem RFs.names : ∀ {S : Sto} {H : Hp} {fs : List (Str × D)} {gs : List (Str × V)}, RFs g S H fs gs → gs = (fs.map (·.1)).zip (gs.map (·.2)) ∧ RDs g S H (fs.map (·.2)) (gs.map (·.2))
  | S, H, [], gs, h => by
    have e : gs = [] := h
    subst e
    exact ⟨rfl, RDs.nil⟩
  | S, H, (x, d) :: fs, gs, ⟨v, r, e, h1, h2⟩ => by
    subst e
    obtain ⟨i1, i2⟩ := RFs.names h2
    refine ⟨?_, RDs.cons h1 i2⟩
    exact congrArg ((x, v) :: ·) i1
theorem freeze {S : Sto} {H : Hp} (rs : RS g S H) {a : Addr} {C : Str} {fs : List (Str × D)} (h : S a = some (.ins C fs)) : RD g (S.del a) H (.ins C (fs.map (·.1)) (fs.map (·.2))) (.ref a) := by
  obtain ⟨nb, c, dx, gs, m, ha, kd, od, rf⟩ := rs.1 a _ h
  have st : Step S H (S.del a) H := Step.sub (Sub.del S a)
  obtain ⟨e, rd⟩ := RFs.names rf
  unfold RD
  refine ⟨a, c, dx, gs.map (·.2), rfl, ⟨by unfold Sto.del; rw [if_pos rfl], nb, by rw [← e]; exact ha⟩, ⟨(st dx _ od kd.1).2, kd.2, od⟩, m, by rw [List.length_map, List.length_map], rd.mono st⟩
theorem new_ins {S : Sto} {H : Hp} (rs : RS g S H) {C : Str} {c x dx : Addr} (hm : g.mg C = some (.ref c)) (hx : H x = none) (hdx : H dx = none) (ne : dx ≠ x) :
    RS g (S.set x (.ins C [])) (upd (upd H dx (.own x)) x (.ins c dx [])) ∧ Step S H (S.set x (.ins C [])) (upd (upd H dx (.own x)) x (.ins c dx [])) := by
  obtain ⟨rs1, st1⟩ := rs.frozen (o := .own x) hdx
  have hx1 : upd H dx (.own x) x = none := by rw [upd_ne ne.symm]; exact hx
  have st2 : Step S (upd H dx (.own x)) (S.set x (.ins C [])) (upd (upd H dx (.own x)) x (.ins c dx [])) := Step.write (.inr hx1)
  refine ⟨rs1.write (.inr hx1) st2 ⟨c, dx, [], hm, upd_same, ⟨?_, rs.fresh hdx⟩, ?_, rfl⟩ (fun b e => by rw [hx1] at e; cases e), st1.trans st2⟩
  · rw [Sto.set_ne ne]; exact rs.free hdx
  · rw [upd_ne ne, upd_same]
theorem s_make (gd : Good T k g X c ex S0 H0) {fz : Bool} {C : Str} {es : List Expr} {df : List D} {ws : Sl → Sto → (List D → Sto → Prop) → Prop} {p pos : Pos} (hg : glB (c.kd C) = true) (hd : (C == dbg) = false) (ha : PA X es (RA g S0 H0 ws)) (hn : es.all noStar = true)
    (h0 : es = [] → ws = fun _ S Q => Q [] S) :
    PE X (.Call (.Name C p) es [] pos) (RE g S0 H0 fun ρ S Q => T.dfs C df ∧ ∃ φ, T.me C ini = some φ ∧ ws ρ S fun ds S1 => ∀ a, S1 a = none → φ (.obj a :: (ds ++ df)) (S1.set a (.ins C [])) (fun d S2 => d = .non ∧ frz fz a C S2 Q) ex) := by
  obtain ⟨K, mg, B⟩ := g
  have e1 : X.K = K := gd.gK
  have e2 : X.mg = mg := gd.gm
  subst e1 e2
  refine ⟨fun pins s σ H Q I h => ?_⟩
  obtain ⟨ρ, S, Qd, r, ⟨hdf, φ, hφ, h⟩, kk⟩ := h
  obtain ⟨cc, a, fd, ps, hm, mk, F, hb⟩ := gd.ge.mks C φ hφ
  obtain ⟨dvs, us, b, vv, rdf⟩ := hb df hdf
  have fin : ∀ S1 H1 ds vs, RDs ⟨X.K, X.mg, B⟩ S1 H1 ds vs → RS ⟨X.K, X.mg, B⟩ S1 H1 → Step S H S1 H1 → (∀ a, S1 a = none → φ (.obj a :: (ds ++ df)) (S1.set a (.ins C [])) (fun d S2 => d = .non ∧ frz fz a C S2 Qd) ex) →
      ∀ x dx, H1 x = none → H1 dx = none → dx ≠ x → spOf X.K X.mg φ (V.ref x :: (vs ++ dvs)) (upd (upd H1 dx (.own x)) x (.ins cc dx [])) (fun v H2 => v = V.non ∧ Q (V.ref x) H2) (EX ⟨X.K, X.mg, B⟩ ex S0 H0) := by
    intro S1 H1 ds vs rds rs1 st1 q x dx hx hdx ne
    obtain ⟨rs2, st2⟩ := new_ins rs1 hm hx hdx ne
    refine ⟨B, .obj x :: (ds ++ df), S1.set x (.ins C []), _, ex, RDs.cons rd_obj ((rds.mono st2).append (rdf B _ _)), rs2, q x (rs1.free hx), ?_, contX_of r (st1.trans st2)⟩
    rintro v d S3 H3 rd rs3 st3 ⟨rfl, q3⟩
    refine ⟨rd.ofNon, ?_⟩
    unfold frz at q3
    split at q3
    · obtain ⟨fs, hfs, q3⟩ := q3
      exact kk _ _ _ H3 (freeze rs3 hfs) (rs3.sub (Sub.del S3 x)) (((st1.trans st2).trans st3).trans (Step.sub (Sub.del S3 x))) q3
    · exact kk _ _ S3 H3 rd_obj rs3 ((st1.trans st2).trans st3) q3
  cases es with
  | nil =>
    rw [h0 rfl] at h
    refine wpAny_Call_Name_kw (ld_glob I (gd.gl hg) hm ?_ hd)
    exact PySem.W.callWith_K0 I.kIn mk.kp (make_g (us := []) mk F gd.gds gd.room b vv gd.pass I .nil (fin S H [] [] RDs.nil r.rs (Step.refl S H) h))
  | cons e es =>
    rw [List.all_cons, Bool.and_eq_true] at hn
    refine wpAny_Call_Name_kw (ld_glob I (gd.gl hg) hm ?_ hd)
    have q0 : RA ⟨X.K, X.mg, B⟩ S0 H0 ws σ H fun vs H1 => ∀ x dx, H1 x = none → H1 dx = none → dx ≠ x → spOf X.K X.mg φ (V.ref x :: (vs ++ dvs)) (upd (upd H1 dx (.own x)) x (.ins cc dx [])) (fun v H2 => v = V.non ∧ Q (V.ref x) H2) (EX ⟨X.K, X.mg, B⟩ ex S0 H0) :=
      ⟨ρ, S, _, r, h, fun vs ds S1 H1 rds rs1 st1 q1 => fin S1 H1 ds vs rds rs1 st1 q1⟩
    exact PySem.W.callWith_K (h₀ := X.base) I.ok.mod.kin mk.kp (thn (ha.run pos pins s σ H _ I q0) fun as s1 ⟨vs, H1, I1, rv, q⟩ => ⟨I1.kIn, make_g mk F gd.gds gd.room b vv gd.pass I1 rv q⟩) (star_cons hn.1) (star_any hn.2)
/-! ### built-ins -/
theorem boot_bi (b : Bi) : bootBuiltins b.nm = some b.val := by cases b <;> decide +kernel
theorem nm_bi (b : Bi) : b.nm ≠ "__name__" ∧ (b.nm == Str.ofString "__debug__") = false := by cases b <;> decide +kernel
theorem in_bi (b : Bi) : b.nm ∈ (["len", "all", "any", "abs", "max", "min", "int", "str", "tuple", "list", "divmod", "isinstance", "range", "enumerate", "zip", "bool", "dict", "sorted", "set", "repr", "sum", "reversed"] : List Str) := by cases b <;> decide +kernel
theorem s_bi (gd : Good T k g X c ex S0 H0) {fz : Bool} {b : Bi} {e : Expr} {es : List Expr} {ws : Sl → Sto → (List D → Sto → Prop) → Prop} {p pos : Pos} (hg : glB (c.kd b.nm) = true) (ha : PA X (e :: es) (RA g S0 H0 ws)) (hn : (e :: es).all noStar = true) :
    PE X (.Call (.Name b.nm p) (e :: es) [] pos) (RE g S0 H0 fun ρ S Q => ws ρ S fun ds S1 => biS fz b ds S1 Q) := by
  rw [List.all_cons, Bool.and_eq_true] at hn
  have key : PE X (.Call (.Name b.nm p) (e :: es) [] pos) (tCB (RCd g (biS fz b)) (RA g S0 H0 ws)) := by
    have hs := bi_sound (X := X) (g := g) gd.gK gd.calm gd.gds (by have := gd.room.un; omega) fz b
    have hb := boot_bi b
    have hm : X.mg b.nm = none := by rw [gd.gm]; exact gd.ge.blt _ (in_bi b)
    have h1 := (nm_bi b).1
    have h2 := (nm_bi b).2
    have hgl := gd.gl hg
    cases b
    case int => exact pe_callTy hs hgl hm hb ha h1 h2 (star_cons hn.1) (star_any hn.2)
    case str => exact pe_callTy hs hgl hm hb ha h1 h2 (star_cons hn.1) (star_any hn.2)
    case tuple => exact pe_callTy hs hgl hm hb ha h1 h2 (star_cons hn.1) (star_any hn.2)
    case list => exact pe_callTy hs hgl hm hb ha h1 h2 (star_cons hn.1) (star_any hn.2)
    all_goals exact pe_callB hs hgl hm hb ha h1 h2 (star_cons hn.1) (star_any hn.2)
  refine key.imp fun σ H Q h => ?_
  obtain ⟨ρ, S, Qd, r, h, kk⟩ := h
  exact ⟨ρ, S, _, r, h, fun vs ds S1 H1 rds rs1 st1 q1 => ⟨ds, S1, Qd, rds, rs1, q1, kk.from st1⟩⟩
/-! ### kinds -/
theorem ty_X {S : Sto} {H : Hp} {d : D} {v : V} {kd : Kd} {kv : Value} (rs : RS g S H) (rd : RD g S H d v) (h : kindOf S d = some kd) (hv : kdV g.mg kd kv) (hi : ∀ C c, kd = .o C → g.mg C = some (.ref c) → InsTy g.K c) : TyX g.K H v kv := by
  cases d with
  | non => cases h; cases hv; rw [rd.ofNon]; exact .base .non
  | bl b => cases h; cases hv; rw [rd.ofBl]; exact .base (.bl b)
  | int i => cases h; cases hv; rw [rd.ofInt]; exact .base (.int i)
  | str s => cases h; cases hv; rw [rd.ofStr.1]; exact .base (.str _)
  | tup xs =>
    cases h; cases hv
    unfold RD at rd
    obtain ⟨a, vs, rfl, q, _⟩ := rd
    rcases q with ⟨_, _, q | ⟨o, q⟩⟩ | ⟨o, its, n, q1, q2, _⟩
    · exact .base (.tup q)
    · exact .fTuple q
    · exact .kTuple q1 q2
  | lst xs =>
    cases h; cases hv
    unfold RD at rd
    obtain ⟨a, vs, rfl, _, _, q, _⟩ := rd
    rcases q with q | ⟨o, q⟩
    · exact .base (.lst q)
    · exact .base (.frz q)
  | obj a =>
    rw [rd.ofObj]
    simp only [kindOf] at h
    split at h
    · rename_i xs e
      cases h; cases hv
      obtain ⟨vs, q, _⟩ := (rs.1 a _ e).2
      exact .base (.lst q)
    · rename_i xs e
      cases h; cases hv
      obtain ⟨vs, q, _⟩ := (rs.1 a _ e).2
      exact .base (.dK q)
    · rename_i C fs e
      cases h
      obtain ⟨c, hm, rfl⟩ := hv
      obtain ⟨c', dx, gs, hm', q, _⟩ := (rs.1 a _ e).2
      rw [hm] at hm'
      cases hm'
      obtain ⟨i1, i2, i3, i4, i5⟩ := hi C c rfl hm
      exact .base (.ins q i1 i2 i3 i4 i5)
    · cases h
  | lsk xs => cases h
  | ty n => cases h
  | gl x => cases h
  | ins C ns ds =>
    cases h
    obtain ⟨c, hm, rfl⟩ := hv
    unfold RD at rd
    obtain ⟨a, c', dx, vs, rfl, ⟨_, _, q⟩, _, hm', _⟩ := rd
    rw [hm] at hm'
    cases hm'
    obtain ⟨i1, i2, i3, i4, i5⟩ := hi C c rfl hm
    exact .base (.ins q i1 i2 i3 i4 i5)
  | dct ks ds =>
    cases h; cases hv
    unfold RD at rd
    obtain ⟨a, qs, vs, rfl, ⟨_, _, q⟩, _⟩ := rd
    exact .base (.dK q)
theorem boot_ty {n : String} (h : n ∈ biTys) : bootBuiltins (Str.ofString n) = some (.type n) ∧ Str.ofString n ≠ "__name__" ∧ Str.ofString n ∈ (["len", "all", "any", "abs", "max", "min", "int", "str", "tuple", "list", "divmod", "isinstance", "range", "enumerate", "zip", "bool", "dict", "sorted", "set", "repr", "sum", "reversed"] : List Str) := by
  simp only [biTys, List.mem_cons, List.not_mem_nil, or_false] at h
  rcases h with rfl | rfl | rfl | rfl | rfl | rfl <;> decide +kernel
theorem kv_of {S : Sto} {H : Hp} {d : D} {v : V} {kd : Kd} (rs : RS g S H) (rd : RD g S H d v) (h : kindOf S d = some kd) : ∃ kv, kdV g.mg kd kv := by
  cases kd with
  | b n => exact ⟨.type n, rfl⟩
  | o C =>
    have hi : ∃ fs, insOf S d = some (C, fs) := by
      cases d <;> simp only [kindOf, Option.some.injEq, Kd.o.injEq, reduceCtorEq] at h
      case obj a =>
        split at h <;> first | (cases h; done) | (rename_i C' fs e; cases h; exact ⟨fs, by simp only [insOf, e]⟩)
      case ins C' ns vs => subst h; exact ⟨_, rfl⟩
    obtain ⟨fs, hi⟩ := hi
    obtain ⟨a, c, _, _, _, hm, _⟩ := rd.inst rs hi
    exact ⟨.ref c, c, hm, rfl⟩
theorem s_isi (gd : Good T k g X c ex S0 H0) {w : Sl → Sto → QV → Prop} {a : Expr} {y : Str} {t : Kd} {p p2 pos : Pos} (hg : glB (c.kd ("isinstance" : Str)) = true) (hy : glB (c.kd y) = true) (hyd : (y == dbg) = false) (hn : noStar a = true)
    (ht : (match t with | .b n => biTys.contains n && Str.ofString n == y | .o C => C == y) = true) (ha : PE X a (RE g S0 H0 w)) :
    PE X (.Call (.Name "isinstance" p) [a, .Name y p2] [] pos) (RE g S0 H0 fun ρ S Q => tyOk T t ∧ w ρ S fun x S1 => ∃ kd, kindOf S1 x = some kd ∧ kOk kd = true ∧ Q (.bl (isiB kd t)) S1) := by
  have hm : X.mg "isinstance" = none := by rw [gd.gm]; exact gd.ge.blt _ (by decide +kernel)
  have fin : ∀ (v : V), (∀ kv, kdV g.mg t kv → ClsV v kv) → (∃ tv, kdV g.mg t tv) → tOk t = true → PE X (.Name y p2) (tC v) → PE X (.Call (.Name "isinstance" p) [a, .Name y p2] [] pos) (RE g S0 H0 fun ρ S Q => tyOk T t ∧ w ρ S fun x S1 => ∃ kd, kindOf S1 x = some kd ∧ kOk kd = true ∧ Q (.bl (isiB kd t)) S1) := by
    intro v hv htv hto hp
    refine (pe_callB call_isi (gd.gl hg) hm (by decide +kernel) (pa_cons ha (pa_cons hp pa_nil rfl) (star_cons hn)) (by decide) (by decide) (star_cons hn) rfl).imp fun σ H Q h => ?_
    obtain ⟨ρ, S, Qd, r, ⟨_, h⟩, kk⟩ := h
    refine ⟨ρ, S, _, r, h, fun x d S1 H1 rd1 rs1 st1 q1 => ?_⟩
    obtain ⟨kd, hk, hi, q⟩ := q1
    obtain ⟨kv, h1⟩ := kv_of rs1 rd1 hk
    obtain ⟨tv, h2⟩ := htv
    obtain ⟨h3, h4⟩ := gd.ge.isi kd t kv tv hi hto h1 h2
    exact ⟨x, v, kv, tv, _, rfl, hv tv h2, gd.gK ▸ ty_X rs1 rd1 hk h1 h4, gd.gK ▸ h3, (kk.from st1).here rs1 rd_bl q⟩
  cases t with
  | b n =>
    simp only [Bool.and_eq_true, List.contains_iff_mem, beq_iff_eq] at ht
    obtain ⟨h1, rfl⟩ := ht
    obtain ⟨b1, b2, b3⟩ := boot_ty h1
    exact fin (.ty n) (fun kv e => by cases e; exact .ty n) ⟨_, rfl⟩ (List.contains_iff_mem.mpr h1) (pe_bltn (gd.gl hy) (by rw [gd.gm]; exact gd.ge.blt _ b3) b1 rfl b2 hyd)
  | o C =>
    simp only [beq_iff_eq] at ht
    subst ht
    refine ⟨fun pins s σ H Q I h => ?_⟩
    have hc : (∃ cc, g.mg C = some (.ref cc)) ∧ clN.contains C = true := by
      obtain ⟨_, _, _, _, ⟨⟨⟨f, hf⟩, hcl⟩, _⟩, _⟩ := h
      obtain ⟨cc, hc, _⟩ := gd.ge.fld C f hf
      exact ⟨⟨cc, hc⟩, hcl⟩
    obtain ⟨⟨cc, hc⟩, hcl⟩ := hc
    refine (fin (.ref cc) (fun kv e => ?_) ⟨_, cc, hc, rfl⟩ hcl (pe_glob (gd.gl hy) (by rw [gd.gm]; exact hc) rfl hyd)).run pins s σ H Q I h
    obtain ⟨c', e1, rfl⟩ := e
    rw [hc] at e1
    cases e1
    exact .own cc
/-! ### methods of built-in kinds, own methods, attributes -/
theorem nosup {o : Expr} {a : Str} {env : Env} {w : Sem Value} (h : noSup o = true) : attributeBase o a env w = w := by
  unfold attributeBase
  split
  · cases h
  · rfl
theorem star_all {cpos : Pos} {env : Env} : ∀ {es : List Expr}, es.all noStar = true → ((backTo cpos (starEach es env)).all fun x => !x.1) = true
  | [], _ => rfl
  | e :: es, h => by
    rw [List.all_cons, Bool.and_eq_true] at h
    rw [star_cons h.1]
    show (true && _) = true
    rw [Bool.true_and]
    exact star_all h.2
theorem form_ok {es : List Expr} {cpos : Pos} {env : Env} (hn : es.all noStar = true) (hl : es.length < 30) : (((backTo cpos (starEach es env)).all fun x => !x.1) && (backToKw cpos (keywordEach [] env)).all (fun x => x.1.isSome) && decide ((es.length + ([] : List Keyword).length + if ([] : List Keyword).isEmpty = true then 0 else 1) < 30)) = true := by
  rw [star_all hn]
  show (true && true && decide (es.length + 0 + 0 < 30)) = true
  rw [decide_eq_true (by omega)]; rfl
theorem eval_own {o : Expr} {m : Str} {apos pos : Pos} {es : List Expr} {env : Env} (hs : noSup o = true) (hn : es.all noStar = true) (hl : es.length < 30) (hp : (apos.endLine == pos.line) = true) :
    eval (.Call (.Attribute o m apos) es [] pos) env = (do
      let ov ← eval o env
      standAt apos.atName
      let (f, first) ← holding [ov] (getMethod ov m (do return (← importBound o env).getD true))
      callWith pos f first (backTo pos (starEach es env)) (backToKw pos (keywordEach [] env))) := by
  have hf : methodCallForm (es.length + ([] : List Keyword).length) (backTo pos (starEach es env)) (backToKw pos (keywordEach [] env)) = true := form_ok hn hl
  show (do
    let ov ← attributeBase o m env (eval o env)
    standAt apos.atName
    methodCall o m apos pos env ov (es.length + ([] : List Keyword).length) (backTo pos (starEach es env)) (backToKw pos (keywordEach [] env))) = _
  rw [nosup hs]
  unfold methodCall methodCallPos calleeOf
  rw [hf, hp]
  rfl
theorem s_meth (gd : Good T k g X c ex S0 H0) {m : Me} {o e : Expr} {es : List Expr} {w : Sl → Sto → QV → Prop} {ws : Sl → Sto → (List D → Sto → Prop) → Prop} {apos cpos : Pos} (ho : PE X o (RE g S0 H0 w)) (ha : PA X (e :: es) (RA g S0 H0 ws))
    (hn : (e :: es).all noStar = true) (hs : noSup o = true) (hl : (e :: es).length < 30) (hp : (apos.endLine == cpos.line) = true) :
    PE X (.Call (.Attribute o m.nm apos) (e :: es) [] cpos) (RE g S0 H0 fun ρ S Q => w ρ S fun x S1 => meT m x S1 ∧ ws ρ S1 fun ds S2 => meS m x ds S2 Q) := by
  have h2 := form_ok (cpos := cpos) (env := X.env) hn hl
  rw [List.all_cons, Bool.and_eq_true] at hn
  have hms := me_sound (X := X) (g := g) gd.gK m
  have key : PE X (.Call (.Attribute o m.nm apos) (e :: es) [] cpos) (tBM X.K m.ty (RMd g (meS m)) (RE g S0 H0 w) (RA g S0 H0 ws)) := by
    cases m with
    | join => exact pe_bm PySem.F.plainAttrs_str PySem.F.slot_str_join PySem.F.type_str_join hms ho ha (nosup hs) h2 hp (star_cons hn.1) (star_any hn.2)
    | append => exact pe_bm PySem.F.plainAttrs_list PySem.F.slot_list_append PySem.F.type_list_append hms ho ha (nosup hs) h2 hp (star_cons hn.1) (star_any hn.2)
    | extend => exact pe_bm PySem.F.plainAttrs_list PySem.F.slot_list_extend PySem.F.type_list_extend hms ho ha (nosup hs) h2 hp (star_cons hn.1) (star_any hn.2)
  refine key.imp fun σ H Q h => ?_
  obtain ⟨ρ, S, Qd, r, h, kk⟩ := h
  refine ⟨ρ, S, _, r, h, fun x d S1 H1 rd1 rs1 st1 q1 => ⟨?_, ρ, S1, _, r.step rs1 st1, q1.2, fun vs ds S2 H2 rds rs2 st2 q2 => ⟨d, ds, S2, Qd, rd1.mono st2, rds, rs2, q2, kk.from (st1.trans st2)⟩⟩⟩
  have ht := q1.1
  unfold meT at ht
  split at ht
  · rw [rd1.ofStr.1]; rfl
  · obtain ⟨xs, e⟩ := ht
    obtain ⟨vs, q, _⟩ := (rs1.1 _ _ e).2
    rw [rd1.ofObj]
    exact .inl ⟨rfl, vs, SqL.of q⟩
  · obtain ⟨xs, e⟩ := ht
    obtain ⟨vs, q, _⟩ := (rs1.1 _ _ e).2
    rw [rd1.ofObj]
    exact .inl ⟨rfl, vs, SqL.of q⟩
  · exact ht.elim
theorem RFs.look {S : Sto} {H : Hp} {f : Str} : ∀ {fs : List (Str × D)} {gs : List (Str × V)}, RFs g S H fs gs → (∀ d, fs.lookup f = some d → ∃ v, gs.lookup f = some v ∧ RD g S H d v) ∧ (fs.lookup f = none → gs.lookup f = none)
  | [], gs, h => by
    unfold RFs at h
    subst h
    exact ⟨fun d e => (by cases e), fun _ => rfl⟩
  | (x, d0) :: fs, gs, h => by
    unfold RFs at h
    obtain ⟨v, r, rfl, h1, h2⟩ := h
    obtain ⟨i1, i2⟩ := RFs.look (f := f) h2
    by_cases hx : (f == x) = true
    · refine ⟨fun d e => ⟨v, ?_, ?_⟩, fun e => ?_⟩
      · rw [List.lookup_cons, hx]
      · rw [List.lookup_cons, hx] at e; cases e; exact h1
      · rw [List.lookup_cons, hx] at e; cases e
    · rw [Bool.not_eq_true] at hx
      refine ⟨fun d e => ?_, fun e => ?_⟩
      · rw [List.lookup_cons, hx] at e ⊢; exact i1 d e
      · rw [List.lookup_cons, hx] at e ⊢; exact i2 e
theorem s_own (gd : Good T k g X c ex S0 H0) {C m : Str} {o : Expr} {es : List Expr} {w : Sl → Sto → QV → Prop} {ws : Sl → Sto → (List D → Sto → Prop) → Prop} {apos pos : Pos} (ho : PE X o (RE g S0 H0 w)) (ha : PA X es (RA g S0 H0 ws))
    (hn : es.all noStar = true) (hs : noSup o = true) (hl : es.length < 30) (hp : (apos.endLine == pos.line) = true) (h0 : es = [] → ws = fun _ S Q => Q [] S) :
    PE X (.Call (.Attribute o m apos) es [] pos) (RE g S0 H0 fun ρ S Q => ∃ φ, T.me C m = some φ ∧ w ρ S fun x S1 => ∃ fs, insOf S1 x = some (C, fs) ∧ fs.lookup m = none ∧ ws ρ S1 fun ds S2 => φ (x :: ds) S2 Q ex) := by
  obtain ⟨K, mg, B⟩ := g
  have e1 : X.K = K := gd.gK
  have e2 : X.mg = mg := gd.gm
  subst e1 e2
  refine ⟨fun pins s σ H Q I h => ?_⟩
  obtain ⟨ρ, S, Qd, r, ⟨φ, hφ, h⟩, kk⟩ := h
  obtain ⟨cc, a, fd, ps, hm, cl, mt, F, b⟩ := gd.ge.mes C m φ hφ
  have rm := gd.room.mono (Nat.le_succ k)
  have fin : RE ⟨X.K, X.mg, B⟩ S0 H0 w σ H fun x H1 => ∃ ad dx gs, x = .ref ad ∧ H1 ad = some (.ins cc dx gs) ∧ gs.lookup m = none ∧
      RA ⟨X.K, X.mg, B⟩ S0 H0 ws σ H1 fun vs H2 => spOf X.K X.mg φ (.ref ad :: vs) H2 Q (EX ⟨X.K, X.mg, B⟩ ex S0 H0) := by
    refine ⟨ρ, S, _, r, h, fun x d S1 H1 rd1 rs1 st1 q1 => ?_⟩
    obtain ⟨fs, es1, nl, q1⟩ := q1
    obtain ⟨ad, c', dx, gs, rfl, hm', q, _, rf⟩ := rd1.inst rs1 es1
    rw [hm] at hm'
    obtain rfl : cc = c' := Value.ref.inj (Option.some.inj hm')
    exact ⟨ad, dx, gs, rfl, q, (RFs.look rf).2 nl, ρ, S1, _, r.step rs1 st1, q1, fun vs ds S2 H2 rds rs2 st2 q2 =>
      ⟨B, d :: ds, S2, Qd, ex, RDs.cons (rd1.mono st2) rds, rs2, q2, kk.from (st1.trans st2), contX_of r (st1.trans st2)⟩⟩
  refine PySem.W.methodCall_KW (thn (ho.run pins s σ H _ I fin) fun u s1 ⟨x, H1, I1, rx, ad, dx, gs, ex1, ea, nl, q⟩ => ?_) (eval_own hs hn hl hp)
  subst ex1
  obtain rfl : u = Value.ref ad := rx
  refine getmeth_ok I1 ea cl mt nl ?_
  have go : ∀ (as : List Value) (vs : List V) (s2 : Shared) (H2 : Hp), L2.Inv X pins σ H2 s2 → Vals vs as → spOf X.K X.mg φ (.ref ad :: vs) H2 Q (EX ⟨X.K, X.mg, B⟩ ex S0 H0) → wpAny (model X.prog X.w) X.A (call (.ref a) (.ref ad :: as)) (EP X pins σ Q) X.xe s2 := by
    intro as vs s2 H2 I2 rv q2
    have rv' : Vals (V.ref ad :: vs) (Value.ref ad :: as) := .cons rfl rv
    have hln : (Value.ref ad :: as ++ []).length = ps.length := by rw [List.append_nil, ← rv'.length]; exact F.many _ _ _ _ q2
    have bt := b s2 (Value.ref ad :: as) I2.kIn hln
    rw [List.append_nil] at bt
    exact run_g (args := ⟨Value.ref ad :: as, []⟩) F gd.gds rm bt gd.pass I2 rv' q2
  cases es with
  | nil =>
    rw [h0 rfl] at q
    obtain ⟨ρ', S', Qd', r', q', kk'⟩ := q
    exact PySem.W.callWith_K0 (first := [.ref ad]) I1.kIn mt.kp (go [] [] s1 H1 I1 .nil (kk' [] [] S' H1 RDs.nil r'.rs (Step.refl S' H1) q'))
  | cons e es =>
    have hn' := hn
    rw [List.all_cons, Bool.and_eq_true] at hn'
    exact PySem.W.callWith_K (first := [.ref ad]) (h₀ := X.base) I.ok.mod.kin mt.kp (thn (ha.run pos pins s1 σ H1 _ I1 q) fun as s2 ⟨vs, H2, I2, rv, q2⟩ => ⟨I2.kIn, go as vs s2 H2 I2 rv q2⟩) (star_cons hn'.1) (star_any hn'.2)
theorem s_attr (gd : Good T k g X c ex S0 H0) {f : Str} {o : Expr} {w : Sl → Sto → QV → Prop} {pos : Pos} (ho : PE X o (RE g S0 H0 w)) (hs : noSup o = true) :
    PE X (.Attribute o f pos) (RE g S0 H0 fun ρ S Q => w ρ S fun x S1 => ∃ C fs d, insOf S1 x = some (C, fs) ∧ f ∈ T.flds C ∧ fs.lookup f = some d ∧ Q d S1) := by
  refine (pe_fld ho (nosup hs)).imp fun σ H Q h => ?_
  obtain ⟨ρ, S, Qd, r, h, kk⟩ := h
  refine ⟨ρ, S, _, r, h, fun x d S1 H1 rd1 rs1 st1 q1 => ?_⟩
  obtain ⟨C, fs, d', es1, hf, hl, q1⟩ := q1
  obtain ⟨a, c', dx, gs, ea, hm', q, _, rf⟩ := rd1.inst rs1 es1
  obtain ⟨cc, hm, cl, na⟩ := gd.ge.fld C f hf
  rw [hm] at hm'
  obtain rfl : cc = c' := Value.ref.inj (Option.some.inj hm')
  obtain ⟨v, lv, rv⟩ := (RFs.look rf).1 d' hl
  exact ⟨a, cc, dx, gs, v, ea, q, gd.gK ▸ cl, gd.gK ▸ na, lv, (kk.from st1).here rs1 rv q1⟩
/-! ### items, slices, displays -/
theorem plainIx {b : Expr} (h : plainSlice b = true) : PlainIx b := by
  intro o i
  cases b <;> first | rfl | cases h
theorem s_sub (gd : Good T k g X c ex S0 H0) {wa wb : Sl → Sto → QV → Prop} {a b : Expr} {pos : Pos} (ha : PE X a (RE g S0 H0 wa)) (hb : PE X b (RE g S0 H0 wb)) (hp : plainSlice b = true) :
    PE X (.Subscript a b pos) (RE g S0 H0 fun ρ S Q => wa ρ S fun x S1 => wb ρ S1 fun y S2 => subS x y S2 Q) := (pe_ix (sub_sound gd.gK (by have := gd.room.un; omega)) ha hb (plainIx hp)).imp fun _ _ _ h => re_two h
def RP (g : Gx) (S0 : Sto) (H0 : Hp) (w : Sl → Sto → (Option Int → Sto → Prop) → Prop) : TO := fun σ H Q => ∃ ρ S Qd, Rl g S0 H0 ρ S σ H ∧ w ρ S Qd ∧ ∀ o S' H', RS g S' H' → Step S H S' H' → Qd o S' → Q o H'
theorem _root_.L2.PO.imp {X : Cx} {e : Option Expr} {t t' : TO} (h : PO X e t) (f : ∀ σ H Q, t' σ H Q → t σ H Q) : PO X e t' := ⟨fun pins s σ H Q I q => h.run pins s σ H Q I (f σ H Q q)⟩
theorem s_part {w : Sl → Sto → QV → Prop} {e : Expr} (he : PE X e (RE g S0 H0 w)) : PO X (some e) (RP g S0 H0 fun ρ S Q => w ρ S fun d S1 => match d with | .int i => Q (some i) S1 | _ => False) := by
  refine (po_some he).imp fun σ H Q h => ?_
  obtain ⟨ρ, S, Qd, r, h, kk⟩ := h
  refine ⟨ρ, S, _, r, h, fun x d S1 H1 rd1 rs1 st1 q1 => ?_⟩
  split at q1
  · exact ⟨_, rd1.ofInt, kk _ S1 H1 rs1 st1 q1⟩
  · exact q1.elim
theorem s_nopart : PO X none (RP g S0 H0 fun _ S Q => Q none S) := po_none.imp fun σ H Q ⟨ρ, S, Qd, r, h, kk⟩ => kk none S H r.rs (Step.refl S H) h
theorem s_sl (gd : Good T k g X c ex S0 H0) {w : Sl → Sto → QV → Prop} {wl wh : Sl → Sto → (Option Int → Sto → Prop) → Prop} {a : Expr} {lo hi : Option Expr} {pos p2 : Pos} (ha : PE X a (RE g S0 H0 w)) (hl : PO X lo (RP g S0 H0 wl)) (hh : PO X hi (RP g S0 H0 wh)) :
    PE X (.Subscript a (.Slice lo hi none p2) pos) (RE g S0 H0 fun ρ S Q => w ρ S fun x S1 => wl ρ S1 fun l S2 => wh ρ S2 fun h S3 => slS x l h S3 Q) := by
  refine (pe_slice (sl_sound gd.gK) ha hl hh).imp fun σ H Q h => ?_
  obtain ⟨ρ, S, Qd, r, h, kk⟩ := h
  exact ⟨ρ, S, _, r, h, fun x d S1 H1 rd1 rs1 st1 q1 => ⟨ρ, S1, _, r.step rs1 st1, q1, fun l S2 H2 rs2 st2 q2 => ⟨ρ, S2, _, (r.step rs1 st1).step rs2 st2, q2, fun u S3 H3 rs3 st3 q3 =>
    ⟨d, S3, Qd, (rd1.mono st2).mono st3, rs3, q3, kk.from ((st1.trans st2).trans st3)⟩⟩⟩⟩
theorem s_tup {ws : Sl → Sto → (List D → Sto → Prop) → Prop} {es : List Expr} {n : Nat} {pos : Pos} (ha : PA X es (RA g S0 H0 ws)) : PE X (.Tuple es n pos) (RE g S0 H0 fun ρ S Q => ws ρ S fun ds S1 => ds.length ≤ lim ∧ Q (.tup ds) S1) := by
  refine (pe_tup ha).imp fun σ H Q h => ?_
  obtain ⟨ρ, S, Qd, r, h, kk⟩ := h
  exact ⟨ρ, S, _, r, h, fun vs ds S1 H1 rds rs1 st1 q1 => ⟨by rw [← rds.length]; exact lim_size q1.1, fun p hp => (kk.from st1).newT rs1 rds q1.2 p hp⟩⟩
theorem s_lst {fz : Bool} {ws : Sl → Sto → (List D → Sto → Prop) → Prop} {es : List Expr} {pos : Pos} (ha : PA X es (RA g S0 H0 ws)) : PE X (.List es pos) (RE g S0 H0 fun ρ S Q => ws ρ S fun ds S1 => ds.length ≤ lim ∧ newL fz ds S1 Q) := by
  refine (pe_lst ha).imp fun σ H Q h => ?_
  obtain ⟨ρ, S, Qd, r, h, kk⟩ := h
  exact ⟨ρ, S, _, r, h, fun vs ds S1 H1 rds rs1 st1 q1 => ⟨by rw [← rds.length]; exact lim_size q1.1, fun p hp => (kk.from st1).newL rs1 rds q1.2 p hp⟩⟩
end
end G
/-! G10: targets, what is gone through, comprehensions. -/
namespace G
open PySem L2
/-! ### slots forgotten -/
theorem wipe_in {σ : L2.St} {j : Nat} : ∀ {vs : List Nat}, j ∈ vs → j < σ.length → (wipe σ vs)[j]? = some none
  | [], h, _ => by cases h
  | v :: vs, h, hl => by
    unfold wipe
    by_cases e : v = j
    · subst e
      rw [List.getElem?_set_self (by rw [wipe_length]; exact hl)]
    · rw [List.getElem?_set_ne e]
      rcases List.mem_cons.mp h with z | z
      · exact absurd z.symm e
      · exact wipe_in z hl
theorem wipe_set {σ : L2.St} {i : Nat} {x : Option V} {vs : List Nat} (h : i ∈ vs) : wipe (σ.set i x) vs = wipe σ vs := by
  apply List.ext_getElem?
  intro j
  by_cases hj : j ∈ vs
  · by_cases hl : j < σ.length
    · rw [wipe_in hj (by rw [List.length_set]; exact hl), wipe_in hj hl]
    · rw [List.getElem?_eq_none (by rw [wipe_length, List.length_set]; omega), List.getElem?_eq_none (by rw [wipe_length]; omega)]
  · rw [wipe_out hj, wipe_out hj, List.getElem?_set_ne (fun (e : i = j) => hj (by rw [← e]; exact h))]
theorem wipe_wipe {σ : L2.St} {vs : List Nat} : wipe (wipe σ vs) vs = wipe σ vs := by
  apply List.ext_getElem?
  intro j
  by_cases hj : j ∈ vs
  · by_cases hl : j < σ.length
    · rw [wipe_in hj (by rw [wipe_length]; exact hl), wipe_in hj hl]
    · rw [List.getElem?_eq_none (by rw [wipe_length, wipe_length]; omega), List.getElem?_eq_none (by rw [wipe_length]; omega)]
  · rw [wipe_out hj]
theorem wipeD_some {ρ : Sl} {i : Nat} {d : D} : ∀ {vs : List Nat}, (wipeD ρ vs)[i]? = some (some d) → ρ[i]? = some (some d) ∧ i ∉ vs
  | [], h => ⟨h, by simp⟩
  | v :: vs, h => by
    unfold wipeD at h
    by_cases hi : v = i
    · subst hi
      by_cases hv : v < (wipeD ρ vs).length
      · rw [List.getElem?_set_self hv] at h; cases h
      · rw [List.getElem?_eq_none (by simpa using hv)] at h; cases h
    · rw [List.getElem?_set_ne hi] at h
      obtain ⟨h1, h2⟩ := wipeD_some h
      exact ⟨h1, by simp only [List.mem_cons, not_or]; exact ⟨fun e => hi e.symm, h2⟩⟩
theorem wipeD_length (ρ : Sl) : ∀ vs : List Nat, (wipeD ρ vs).length = ρ.length
  | [] => rfl
  | v :: vs => by unfold wipeD; rw [List.length_set, wipeD_length ρ vs]
section
variable {g : Gx} {S0 S : Sto} {H0 H : Hp} {ρ : Sl} {σ : L2.St}
theorem Rl.wipe (r : Rl g S0 H0 ρ S σ H) (vs : List Nat) : Rl g S0 H0 (wipeD ρ vs) S (L2.wipe σ vs) H :=
  ⟨by rw [wipeD_length, wipe_length]; exact r.len, fun i d e => by
    obtain ⟨h1, h2⟩ := wipeD_some e
    rw [wipe_out h2]
    exact r.sl i d h1, r.rs, r.st⟩
theorem Rl.set (r : Rl g S0 H0 ρ S σ H) {i : Nat} {d : D} {v : V} (rd : RD g S H d v) : Rl g S0 H0 (ρ.set i (some d)) S (σ.set i (some v)) H := by
  refine ⟨by rw [List.length_set, List.length_set]; exact r.len, fun j d' e => ?_, r.rs, r.st⟩
  by_cases hj : i = j
  · subst hj
    by_cases hl : i < ρ.length
    · rw [List.getElem?_set_self hl] at e
      cases e
      exact ⟨v, List.getElem?_set_self (by rw [← r.len]; exact hl), rd⟩
    · rw [List.getElem?_eq_none (by simpa using hl)] at e
      cases e
  · rw [List.getElem?_set_ne hj] at e ⊢
    exact r.sl j d' e
end
/-! ### targets -/
def RG (g : Gx) (S0 : Sto) (H0 : Hp) (w : D → Sl → (Sl → Prop) → Prop) (is : List Nat) : TG := fun v σ H Q => ∃ d ρ S Qd, RD g S H d v ∧ Rl g S0 H0 ρ S σ H ∧ w d ρ Qd ∧
  ∀ ρ' σ', Rl g S0 H0 ρ' S σ' H → (∀ vs : List Nat, (∀ i ∈ is, i ∈ vs) → wipe σ' vs = wipe σ vs) → Qd ρ' → Q σ' H
def RGs (g : Gx) (S0 : Sto) (H0 : Hp) (w : List D → Sl → (Sl → Prop) → Prop) (is : List Nat) : TGs := fun us σ H Q => ∃ ds ρ S Qd, RDs g S H ds us ∧ Rl g S0 H0 ρ S σ H ∧ w ds ρ Qd ∧
  ∀ ρ' σ', Rl g S0 H0 ρ' S σ' H → (∀ vs : List Nat, (∀ i ∈ is, i ∈ vs) → wipe σ' vs = wipe σ vs) → Qd ρ' → Q σ' H
theorem _root_.L2.PG.imp {X : Cx} {e : Expr} {t t' : TG} (h : PG X e t) (f : ∀ v σ H Q, t' v σ H Q → t v σ H Q) : PG X e t' := ⟨fun pins s σ H x v Q I r q => h.run pins s σ H x v Q I r (f _ _ _ _ q)⟩
theorem _root_.L2.PGs.imp {X : Cx} {e : List Expr} {t t' : TGs} (h : PGs X e t) (f : ∀ v σ H Q, t' v σ H Q → t v σ H Q) : PGs X e t' := ⟨fun pins s σ H x v Q I r q => h.run pins s σ H x v Q I r (f _ _ _ _ q)⟩
theorem asg_len {env : Env} : ∀ {es : List Expr}, (assignEach es env).length = es.length
  | [] => rfl
  | e :: es => by
    cases e <;> (show (assignEach es env).length + 1 = es.length + 1; rw [asg_len])
theorem asg_star {env : Env} : ∀ {es : List Expr}, es.all noStar = true → (assignEach es env).findIdx? (·.1) = none
  | [], _ => rfl
  | e :: es, h => by
    rw [List.all_cons, Bool.and_eq_true] at h
    have e1 : assignEach (e :: es) env = (false, assign e env) :: assignEach es env := by
      cases e <;> first | rfl | cases h.1
    rw [e1, List.findIdx?_cons]
    simp [asg_star h.2]
section
variable {T : Tab} {k : Nat} {X : Cx} {c : Sc}
theorem mGs_star {c : Sc} : ∀ {ts : Tgs} {es : List Expr}, mGs c ts es = true → es.all noStar = true
  | .nil, [], _ => rfl
  | .cons t r, e :: es, h => by
    unfold mGs at h
    rw [Bool.and_eq_true, Bool.and_eq_true] at h
    rw [List.all_cons, h.1.1, mGs_star h.2]; rfl
  | .nil, _ :: _, h => by unfold mGs at h; cases h
  | .cons _ _, [], h => by unfold mGs at h; cases h
mutual
theorem wG_ex : ∀ {t : Tg} {d : D} {ρ : Sl} {Q : Sl → Prop}, wG t d ρ Q → ∃ ρ', Q ρ'
  | .name i, d, ρ, Q, h => by unfold wG at h; exact ⟨_, h⟩
  | .tup r, d, ρ, Q, h => by
    unfold wG at h
    split at h
    · exact (wGs_ex (c := ()) h).2
    · exact h.elim
theorem wGs_ex {c : Unit} : ∀ {ts : Tgs} {ds : List D} {ρ : Sl} {Q : Sl → Prop}, wGs ts ds ρ Q → (∃ n, ds.length = n) ∧ ∃ ρ', Q ρ'
  | .nil, ds, ρ, Q, h => by unfold wGs at h; exact ⟨⟨_, rfl⟩, ρ, h.2⟩
  | .cons t r, ds, ρ, Q, h => by
    unfold wGs at h
    split at h
    · obtain ⟨ρ1, h1⟩ := wG_ex h
      exact ⟨⟨_, rfl⟩, (wGs_ex (c := ()) h1).2⟩
    · exact h.elim
end
theorem wGs_len {c : Sc} : ∀ {ts : Tgs} {es : List Expr} {ds : List D} {ρ : Sl} {Q : Sl → Prop}, mGs c ts es = true → wGs ts ds ρ Q → ds.length = es.length
  | .nil, [], ds, ρ, Q, _, h => by unfold wGs at h; rw [h.1]; rfl
  | .cons t r, e :: es, ds, ρ, Q, hm, h => by
    unfold mGs at hm
    rw [Bool.and_eq_true, Bool.and_eq_true] at hm
    unfold wGs at h
    split at h
    · obtain ⟨ρ1, h1⟩ := wG_ex h
      have := wGs_len hm.2 h1
      simp [this]
    · exact h.elim
  | .nil, _ :: _, _, _, _, h, _ => by unfold mGs at h; cases h
  | .cons _ _, [], _, _, _, h, _ => by unfold mGs at h; cases h
mutual
theorem sG {g : Gx} {ex : QX} {S0 : Sto} {H0 : Hp} (gd : Good T k g X c ex S0 H0) : ∀ (t : Tg) (x : Expr), mG c t x = true → PG X x (RG g S0 H0 (wG t) (tgSlots t))
  | .name i, .Name x pos, h => by
    unfold mG at h
    rw [Bool.and_eq_true, beq_iff_eq] at h
    obtain ⟨h1, h2⟩ := h
    have hk : List.lookup x X.env.scope.names = some .local ∨ (List.lookup x X.env.scope.names = some .cell ∧ X.fn x = true) := by
      rw [gd.sc, gd.fnk]
      show c.kd x = _ ∨ (c.kd x = _ ∧ _)
      cases e : c.kd x with
      | none => rw [e] at h2; cases h2
      | some kd =>
        rw [e] at h2
        cases kd <;> first | exact .inl rfl | exact .inr ⟨rfl, h2⟩ | cases h2
    refine (pg_name (i := i) gd.nd (by rw [gd.N]; exact h1) (hk.imp id (·.1)) (hk.elim .inr fun z => .inl z.2)).imp fun v σ H Q q => ?_
    obtain ⟨d, ρ, S, Qd, rd, r, hw, kk⟩ := q
    unfold wG at hw
    refine kk _ _ (r.set rd) (fun vs hvs => wipe_set (hvs i ?_)) hw
    unfold tgSlots
    simp
  | .tup ts, .Tuple es n pos, h => by
    unfold mG at h
    have hs := mGs_star h
    refine (pg_tup (n := es.length) gd.calm (sGs gd ts es h) asg_len (asg_star hs)).imp fun v σ H Q q => ?_
    obtain ⟨d, ρ, S, Qd, rd, r, hw, kk⟩ := q
    unfold wG at hw
    split at hw
    · obtain ⟨p, us, rfl, sq, rds⟩ := rd.tup
      refine ⟨p, us, rfl, gd.gK ▸ sq, ?_, _, ρ, S, Qd, rds, r, hw, kk⟩
      rw [← rds.length]
      exact wGs_len h hw
    · exact hw.elim
  | .name i, .BoolOp .., h | .name i, .NamedExpr .., h | .name i, .BinOp .., h | .name i, .UnaryOp .., h | .name i, .Lambda .., h | .name i, .IfExp .., h | .name i, .Dict .., h | .name i, .Set .., h | .name i, .ListComp .., h | .name i, .SetComp .., h
  | .name i, .DictComp .., h | .name i, .GeneratorExp .., h | .name i, .Await .., h | .name i, .Yield .., h | .name i, .YieldFrom .., h | .name i, .Compare .., h | .name i, .Call .., h | .name i, .FormattedValue .., h | .name i, .JoinedStr .., h
  | .name i, .Constant .., h | .name i, .Attribute .., h | .name i, .Subscript .., h | .name i, .Starred .., h | .name i, .List .., h | .name i, .Tuple .., h | .name i, .Slice .., h => by unfold mG at h; cases h
  | .tup i, .BoolOp .., h | .tup i, .NamedExpr .., h | .tup i, .BinOp .., h | .tup i, .UnaryOp .., h | .tup i, .Lambda .., h | .tup i, .IfExp .., h | .tup i, .Dict .., h | .tup i, .Set .., h | .tup i, .ListComp .., h | .tup i, .SetComp .., h
  | .tup i, .DictComp .., h | .tup i, .GeneratorExp .., h | .tup i, .Await .., h | .tup i, .Yield .., h | .tup i, .YieldFrom .., h | .tup i, .Compare .., h | .tup i, .Call .., h | .tup i, .FormattedValue .., h | .tup i, .JoinedStr .., h
  | .tup i, .Constant .., h | .tup i, .Attribute .., h | .tup i, .Subscript .., h | .tup i, .Starred .., h | .tup i, .List .., h | .tup i, .Name .., h | .tup i, .Slice .., h => by unfold mG at h; cases h
theorem sGs {g : Gx} {ex : QX} {S0 : Sto} {H0 : Hp} (gd : Good T k g X c ex S0 H0) : ∀ (ts : Tgs) (es : List Expr), mGs c ts es = true → PGs X es (RGs g S0 H0 (wGs ts) (tgsSlots ts))
  | .nil, [], _ => pgs_nil.imp fun us σ H Q q => by
    obtain ⟨ds, ρ, S, Qd, rds, r, hw, kk⟩ := q
    unfold wGs at hw
    obtain ⟨rfl, hw⟩ := hw
    unfold RDs at rds
    exact ⟨rds, kk ρ σ r (fun _ _ => rfl) hw⟩
  | .cons t ts, e :: es, h => by
    unfold mGs at h
    rw [Bool.and_eq_true, Bool.and_eq_true] at h
    have e1 : (assignEach (e :: es) X.env).map (·.2) = assign e X.env :: (assignEach es X.env).map (·.2) := by
      have := h.1.1
      cases e <;> first | rfl | cases this
    refine (pgs_cons (sG gd t e h.1.2) (sGs gd ts es h.2) e1).imp fun us σ H Q q => ?_
    obtain ⟨ds, ρ, S, Qd, rds, r, hw, kk⟩ := q
    unfold wGs at hw
    split at hw
    · unfold RDs at rds
      obtain ⟨v, us', rfl, rd, rds⟩ := rds
      refine ⟨v, us', rfl, _, ρ, S, _, rd, r, hw, fun ρ1 σ1 r1 hw1 q1 => ⟨_, ρ1, S, Qd, rds, r1, q1, fun ρ2 σ2 r2 hw2 q2 => kk ρ2 σ2 r2 (fun vs hvs => ?_) q2⟩⟩
      unfold tgsSlots at hvs
      rw [hw2 vs fun i hi => hvs i (List.mem_append_right _ hi), hw1 vs fun i hi => hvs i (List.mem_append_left _ hi)]
    · exact hw.elim
  | .nil, _ :: _, h => by unfold mGs at h; cases h
  | .cons _ _, [], h => by unfold mGs at h; cases h
end
end
end G
/-! G11: what a for goes through, by data; list comprehensions. -/
namespace G
open PySem L2
def srK : D → Sr → Prop
  | .str _, .tx _ => True
  | .tup _, .tp _ => True
  | .lst _, .ls _ => True
  | .lsk _, .ls _ => True
  | .obj _, .ls _ => True
  | _, _ => False
section
variable {g : Gx} {S S' S1 : Sto} {H H' H1 : Hp}
theorem src_of {d : D} {v : V} {ds : List D} (rs : RS g S H) (rd : RD g S H d v) (h : itemsOf S d = some ds) : ∃ r : Sr, v = r.val ∧ srK d r := by
  cases d with
  | str s => exact ⟨.tx (mkS s), rd.ofStr.1, trivial⟩
  | tup xs => obtain ⟨p, vs, rfl, _⟩ := rd.tup; exact ⟨.tp p, rfl, trivial⟩
  | lst xs => obtain ⟨p, vs, rfl, _⟩ := rd.lst; exact ⟨.ls p, rfl, trivial⟩
  | lsk xs => unfold RD at rd; obtain ⟨p, vs, rfl, _⟩ := rd; exact ⟨.ls p, rfl, trivial⟩
  | obj a => exact ⟨.ls a, rd.ofObj, trivial⟩
  | non => cases h
  | bl b => cases h
  | int i => cases h
  | ty n => cases h
  | gl x => cases h
  | ins _ _ _ => cases h
  | dct _ _ => cases h
theorem src_get {d : D} {r : Sr} {ds : List D} (rs : RS g S H) (rd : RD g S H d r.val) (hk : srK d r) (h : itemsOf S d = some ds) : ∃ xs, r.has g.K H xs ∧ RDs g S H ds xs := by
  cases d with
  | str s =>
    cases r with
    | tx z =>
      obtain ⟨e, cs⟩ := rd.ofStr
      have ez : z = mkS s := by injection e
      subst ez
      simp only [itemsOf, Option.some.injEq] at h
      subst h
      refine ⟨s.map sgn, ?_, rds_signs cs⟩
      show s.map sgn = (mkS s).cps.toList.map sgn
      rw [mkS_list]
    | _ => exact hk.elim
  | tup xs =>
    cases r with
    | tp a =>
      simp only [itemsOf, seqOf, Option.some.injEq] at h
      subst h
      obtain ⟨p, vs, e, sq, r⟩ := rd.tup
      cases e
      exact ⟨vs, sq, r⟩
    | _ => exact hk.elim
  | lst xs =>
    cases r with
    | ls a =>
      obtain ⟨p, vs, e, sq, r⟩ := rd.seqL rs (show seqOf S (.lst xs) = some ds from h) (fun _ z => by cases z)
      cases e
      exact ⟨vs, sq, r⟩
    | _ => exact hk.elim
  | lsk xs =>
    cases r with
    | ls a =>
      obtain ⟨p, vs, e, sq, r⟩ := rd.seqL rs (show seqOf S (.lsk xs) = some ds from h) (fun _ z => by cases z)
      cases e
      exact ⟨vs, sq, r⟩
    | _ => exact hk.elim
  | obj b =>
    cases r with
    | ls a =>
      obtain ⟨p, vs, e, sq, r⟩ := rd.seqL rs (show seqOf S (.obj b) = some ds from h) (fun _ z => by cases z)
      cases e
      exact ⟨vs, sq, r⟩
    | _ => exact hk.elim
  | non => cases h
  | bl b => cases h
  | int i => cases h
  | ty n => cases h
  | gl x => cases h
  | ins _ _ _ => cases h
  | dct _ _ => cases h
theorem items_still {d : D} {ds : List D} (h : itemsOf S d = some ds) (h1 : still d S1 S) (h2 : still d S1 S') : itemsOf S' d = some ds := by
  cases d with
  | obj a =>
    have e1 : S a = S1 a := h1
    have e2 : S' a = S1 a := h2
    simp only [itemsOf, seqOf] at h ⊢
    rw [e2, ← e1]
    exact h
  | _ => exact h
end
/-- an iterator and what it will hand out -/
inductive ItR (g : Gx) : L2.It → List D → (Sto → Prop) → Sto → Hp → Prop
  | seq {d : D} {r : Sr} {ds : List D} {S1 S : Sto} {H : Hp} : srK d r → RD g S H d r.val → itemsOf S d = some ds → still d S1 S → ItR g (Js g.K r) ds (still d S1) S H
  | rng {lo : Int} {n : Nat} {S : Sto} {H : Hp} : ItR g (Itr lo n) ((List.range n).map fun (k : Nat) => .int (lo + k)) (fun _ => True) S H
  | rngC {lo cc : Int} {n : Nat} {S : Sto} {H : Hp} : ItR g (Itc lo cc n) ((List.range n).map fun (k : Nat) => .int (lo + k * cc)) (fun _ => True) S H
  | enm {d : D} {r : Sr} {ds : List D} {S1 S : Sto} {H : Hp} : srK d r → RD g S H d r.val → itemsOf S d = some ds → still d S1 S → ItR g (Je g.K r) (ds.zipIdx.map fun p => .tup [.int p.2, p.1]) (still d S1) S H
  | zp {d d' : D} {r r' : Sr} {ds ds' : List D} {S1 S : Sto} {H : Hp} : srK d r → RD g S H d r.val → itemsOf S d = some ds → srK d' r' → RD g S H d' r'.val → itemsOf S d' = some ds' → still d S1 S → still d' S1 S →
      ItR g (Jz g.K r r') ((ds.zip ds').map fun p => .tup [p.1, p.2]) (fun S => still d S1 S ∧ still d' S1 S) S H
section
variable {g : Gx} {J : L2.It} {ds : List D} {same : Sto → Prop} {S S' : Sto} {H H' : Hp}
theorem ItR.step (h : ItR g J ds same S H) (st : Step S H S' H') (hs : same S') : ItR g J ds same S' H' := by
  cases h with
  | seq k rd e s => exact .seq k (rd.mono st) (items_still e s hs) hs
  | rng => exact .rng
  | rngC => exact .rngC
  | enm k rd e s => exact .enm k (rd.mono st) (items_still e s hs) hs
  | zp k rd e k' rd' e' s s' => exact .zp k (rd.mono st) (items_still e s hs.1) k' (rd'.mono st) (items_still e' s' hs.2) hs.1 hs.2
theorem ItR.busy (h : ItR g J ds same S H) {p : Addr} {u : HO} (hp : H p = none) : ItR (g.busy p) J ds same S (upd H p u) := by
  cases h with
  | seq k rd e s => exact ItR.seq (g := g.busy p) k (rd.busy hp) e s
  | rng => exact .rng
  | rngC => exact .rngC
  | enm k rd e s => exact ItR.enm (g := g.busy p) k (rd.busy hp) e s
  | zp k rd e k' rd' e' s s' => exact ItR.zp (g := g.busy p) k (rd.busy hp) e k' (rd'.busy hp) e' s s'
theorem ItR.turn {p : Addr} {u : HO} (h : ItR (g.busy p) J ds same S H) : ItR (g.busy p) J ds same S (upd H p u) := by
  cases h with
  | seq k rd e s => exact .seq k rd.turn e s
  | rng => exact .rng
  | rngC => exact .rngC
  | enm k rd e s => exact .enm k rd.turn e s
  | zp k rd e k' rd' e' s s' => exact .zp k rd.turn e k' rd'.turn e' s s'
theorem js_get {r : Sr} {xs : List V} (rds : RDs g S H ds xs) (hx : r.has g.K H xs) : (∀ (i : Nat) (d : D), ds[i]? = some d → (Js g.K r).go i H ∧ ∀ x H', (Js g.K r).yld i H x H' → H' = H ∧ RD g S H d x) ∧ ∀ i : Nat, i = ds.length → (Js g.K r).stop i H := by
  refine ⟨fun i d e => ?_, fun i e => ?_⟩
  · obtain ⟨v, hv, rd⟩ := rds.get i d e
    cases r with
    | ls a => exact ⟨⟨xs, v, hx, hv⟩, fun x H' ⟨e1, e2⟩ => ⟨e1, by have := e2 xs hx; rw [hv] at this; cases this; exact rd⟩⟩
    | tp a => exact ⟨⟨xs, v, hx, hv⟩, fun x H' ⟨e1, e2⟩ => ⟨e1, by have := e2 xs hx; rw [hv] at this; cases this; exact rd⟩⟩
    | tx z =>
      have hx' : xs = z.cps.toList.map sgn := hx
      have hl : i < z.cps.size := by
        have := (List.getElem?_eq_some_iff.mp hv).1
        rw [hx', List.length_map, Array.length_toList] at this
        exact this
      refine ⟨hl, fun x H' ⟨e1, c, hc, ex⟩ => ⟨e1, ?_⟩⟩
      rw [hx', List.getElem?_map, Array.getElem?_toList, hc] at hv
      cases hv
      rw [ex]
      exact rd
  · have hl := rds.length
    cases r with
    | ls a => exact ⟨xs, hx, by omega⟩
    | tp a => exact ⟨xs, hx, by omega⟩
    | tx z =>
      have hx' : xs = z.cps.toList.map sgn := hx
      show z.cps.size ≤ i
      have hl2 : xs.length = z.cps.size := by rw [hx']; simp
      rw [e, rds.length, hl2]
      exact Nat.le_refl _
theorem ItR.get (h : ItR g J ds same S H) (rs : RS g S H) : (∀ (i : Nat) (d : D), ds[i]? = some d → J.go i H ∧ ∀ x H', J.yld i H x H' → RS g S H' ∧ Step S H S H' ∧ RD g S H' d x) ∧ ∀ i : Nat, i = ds.length → J.stop i H := by
  cases h with
  | seq k rd e s =>
    obtain ⟨xs, hx, rds⟩ := src_get rs rd k e
    obtain ⟨a1, a2⟩ := js_get rds hx
    refine ⟨fun i d e => ⟨(a1 i d e).1, fun x H' hy => ?_⟩, a2⟩
    obtain ⟨rfl, q⟩ := (a1 i d e).2 x H' hy
    exact ⟨rs, Step.refl _ _, q⟩
  | @rng lo n =>
    refine ⟨fun i d e => ?_, fun i e => ?_⟩
    · rw [List.getElem?_map] at e
      by_cases hi : i < n
      · rw [List.getElem?_range hi] at e
        cases e
        refine ⟨hi, fun x H' ⟨e1, e2⟩ => ?_⟩
        subst e1 e2
        exact ⟨rs, Step.refl _ _, rd_int⟩
      · rw [List.getElem?_eq_none (by simpa using hi)] at e
        cases e
    · rw [List.length_map, List.length_range] at e
      exact Nat.le_of_eq e.symm
  | @rngC lo cc n =>
    refine ⟨fun i d e => ?_, fun i e => ?_⟩
    · rw [List.getElem?_map] at e
      by_cases hi : i < n
      · rw [List.getElem?_range hi] at e
        cases e
        refine ⟨hi, fun x H' ⟨e1, e2⟩ => ?_⟩
        subst e1 e2
        exact ⟨rs, Step.refl _ _, rd_int⟩
      · rw [List.getElem?_eq_none (by simpa using hi)] at e
        cases e
    · rw [List.length_map, List.length_range] at e
      exact Nat.le_of_eq e.symm
  | @enm d0 r ds0 S1 _ _ k rd e s =>
    obtain ⟨xs, hx, rds⟩ := src_get rs rd k e
    refine ⟨fun i d e => ?_, fun i e => ⟨xs, hx, by rw [e, List.length_map, List.length_zipIdx]; exact rds.length⟩⟩
    rw [List.getElem?_map, List.getElem?_zipIdx] at e
    cases hd : ds0[i]? with
    | none => rw [hd] at e; cases e
    | some d1 =>
      rw [hd] at e
      cases e
      obtain ⟨v, hv, rdv⟩ := rds.get i d1 hd
      refine ⟨⟨xs, v, hx, hv⟩, fun x H' hy => ?_⟩
      obtain ⟨Tp, y, rfl, hT, rfl, hy⟩ := hy
      have ey := hy xs hx
      rw [hv] at ey
      cases ey
      obtain ⟨rs', st'⟩ := rs.frozen (o := .tup [.int i, v]) hT
      refine ⟨rs', st', ?_⟩
      simp only [Nat.zero_add]
      exact RD.newT rs (RDs.cons rd_int (RDs.cons rdv RDs.nil)) hT
  | @zp d0 d0' r r' ds0 ds0' S1 _ _ k rd e k' rd' e' s s' =>
    obtain ⟨xs, hx, rds⟩ := src_get rs rd k e
    obtain ⟨ys, hy, rds'⟩ := src_get rs rd' k' e'
    refine ⟨fun i d e => ?_, fun i e => ⟨xs, ys, hx, hy, by rw [e, List.length_map, List.length_zip, rds.length, rds'.length]⟩⟩
    rw [List.getElem?_map] at e
    cases hz : (ds0.zip ds0')[i]? with
    | none => rw [hz] at e; cases e
    | some q =>
      rw [hz] at e
      cases e
      rw [List.getElem?_zip_eq_some] at hz
      obtain ⟨v, hv, rdv⟩ := rds.get i q.1 hz.1
      obtain ⟨v', hv', rdv'⟩ := rds'.get i q.2 hz.2
      refine ⟨⟨xs, ys, v, v', hx, hy, hv, hv'⟩, fun x H' hyl => ?_⟩
      obtain ⟨Tp, a, b, rfl, hT, rfl, h1, h2⟩ := hyl
      have ea := h1 xs hx
      have eb := h2 ys hy
      rw [hv] at ea
      rw [hv'] at eb
      cases ea
      cases eb
      obtain ⟨rs', st'⟩ := rs.frozen (o := .tup [v, v']) hT
      exact ⟨rs', st', RD.newT rs (RDs.cons rdv (RDs.cons rdv' RDs.nil)) hT⟩
end
def RI (g : Gx) (S0 : Sto) (H0 : Hp) (w : Sl → Sto → (List D → (Sto → Prop) → Sto → Prop) → Prop) : TI := fun σ H R => ∃ ρ S Qi, Rl g S0 H0 ρ S σ H ∧ w ρ S Qi ∧
  ∀ ds same S1 H1 J, RS g S1 H1 → Step S H S1 H1 → ItR g J ds same S1 H1 → Qi ds same S1 → R J H1
section
variable {T : Tab} {k : Nat} {g : Gx} {X : Cx} {c : Sc} {ex : QX} {S0 : Sto} {H0 : Hp}
theorem still_self (d : D) (S : Sto) : still d S S := by cases d <;> first | exact rfl | trivial
theorem s_seq (gd : Good T k g X c ex S0 H0) {w : Sl → Sto → QV → Prop} {tg e : Expr} (he : PE X e (RE g S0 H0 w)) :
    PI X tg e (RI g S0 H0 fun ρ S Q => w ρ S fun d S1 => ∃ ds, itemsOf S1 d = some ds ∧ Q ds (still d S1) S1) := by
  refine (pi_s he).imp fun σ H R h => ?_
  obtain ⟨ρ, S, Qi, r, h, kk⟩ := h
  refine ⟨ρ, S, _, r, h, fun v d S1 H1 rd1 rs1 st1 ⟨ds, hd, q1⟩ => ?_⟩
  obtain ⟨sr, rfl, hk⟩ := src_of rs1 rd1 hd
  obtain ⟨xs, hx, _⟩ := src_get rs1 rd1 hk hd
  rw [gd.gK]
  exact ⟨sr, xs, rfl, hx, kk ds _ S1 H1 _ rs1 st1 (.seq hk rd1 hd (still_self d S1)) q1⟩
theorem s_enum (gd : Good T k g X c ex S0 H0) {w : Sl → Sto → QV → Prop} {e : Expr} {p pos tpos : Pos} {elts : List Expr} {kk : Nat} (he : PE X e (RE g S0 H0 w)) (hg : glB (c.kd ("enumerate" : Str)) = true) (hn : noStar e = true) :
    PI X (.Tuple elts kk tpos) (.Call (.Name "enumerate" p) [e] [] pos) (RI g S0 H0 fun ρ S Q => w ρ S fun d S1 => ∃ ds, itemsOf S1 d = some ds ∧ Q (ds.zipIdx.map fun p => .tup [.int p.2, p.1]) (still d S1) S1) := by
  have hm : X.mg "enumerate" = none := by rw [gd.gm]; exact gd.ge.blt _ (by decide +kernel)
  refine (pi_e (gd.gl hg) hm (pa_cons he pa_nil (star_cons hn)) (star_cons hn)).imp fun σ H R h => ?_
  obtain ⟨ρ, S, Qi, r, h, kk⟩ := h
  refine ⟨ρ, S, _, r, h, fun v d S1 H1 rd1 rs1 st1 ⟨ds, hd, q1⟩ => ?_⟩
  obtain ⟨sr, rfl, hk⟩ := src_of rs1 rd1 hd
  obtain ⟨xs, hx, _⟩ := src_get rs1 rd1 hk hd
  rw [gd.gK]
  exact ⟨sr, xs, rfl, hx, kk _ _ S1 H1 _ rs1 st1 (.enm hk rd1 hd (still_self d S1)) q1⟩
theorem s_zip (gd : Good T k g X c ex S0 H0) {w w' : Sl → Sto → QV → Prop} {e e' : Expr} {p pos tpos : Pos} {elts : List Expr} {kk : Nat} (he : PE X e (RE g S0 H0 w)) (he' : PE X e' (RE g S0 H0 w')) (hg : glB (c.kd ("zip" : Str)) = true) (hn : noStar e = true) (hn' : noStar e' = true) :
    PI X (.Tuple elts kk tpos) (.Call (.Name "zip" p) [e, e'] [] pos) (RI g S0 H0 fun ρ S Q => w ρ S fun x S1 => w' ρ S1 fun y S2 => ∃ xs ys, itemsOf S2 x = some xs ∧ itemsOf S2 y = some ys ∧ Q ((xs.zip ys).map fun p => .tup [p.1, p.2]) (fun S => still x S2 S ∧ still y S2 S) S2) := by
  have hm : X.mg "zip" = none := by rw [gd.gm]; exact gd.ge.blt _ (by decide +kernel)
  refine (pi_z (gd.gl hg) hm (pa_cons he (pa_cons he' pa_nil (star_cons hn')) (star_cons hn)) (star_cons hn) (star_any (by rw [List.all_cons, hn']; rfl))).imp fun σ H R h => ?_
  obtain ⟨ρ, S, Qi, r, h, kk⟩ := h
  refine ⟨ρ, S, _, r, h, fun v d S1 H1 rd1 rs1 st1 q1 => ⟨ρ, S1, _, r.step rs1 st1, q1, fun v' d' S2 H2 rd2 rs2 st2 ⟨xs, ys, h1, h2, q2⟩ => ?_⟩⟩
  have rd1' := rd1.mono st2
  obtain ⟨sr, rfl, hk⟩ := src_of rs2 rd1' h1
  obtain ⟨us, hx, _⟩ := src_get rs2 rd1' hk h1
  obtain ⟨sr', rfl, hk'⟩ := src_of rs2 rd2 h2
  obtain ⟨us', hx', _⟩ := src_get rs2 rd2 hk' h2
  rw [gd.gK]
  exact ⟨sr, sr', us, us', rfl, hx, hx', kk _ _ S2 H2 _ rs2 (st1.trans st2) (.zp hk rd1' h1 hk' rd2 h2 (still_self d S2) (still_self d' S2)) q2⟩
theorem s_range1 (gd : Good T k g X c ex S0 H0) {w : Sl → Sto → QV → Prop} {tg e : Expr} {p pos : Pos} (ha : PE X e (RE g S0 H0 w)) (hg : glB (c.kd ("range" : Str)) = true) (hn : noStar e = true) :
    PI X tg (.Call (.Name "range" p) [e] [] pos) (RI g S0 H0 fun ρ S Q => w ρ S fun d S1 => rngS [d] S1 Q) := by
  have hm : X.mg "range" = none := by rw [gd.gm]; exact gd.ge.blt _ (by decide +kernel)
  refine (pi_range1 (gd.gl hg) hm (pa_cons ha pa_nil (star_cons hn)) (star_cons hn)).imp fun σ H R h => ?_
  obtain ⟨ρ, S, Qi, r, h, kk⟩ := h
  refine ⟨ρ, S, _, r, h, fun v d S1 H1 rd1 rs1 st1 q1 => ?_⟩
  unfold rngS at q1
  split at q1
  · rename_i n e
    cases e
    exact ⟨n, by rw [rd1.ofInt], q1.1.1, q1.1.2, kk _ _ S1 H1 _ rs1 st1 .rng q1.2⟩
  · rename_i e; cases e
  · rename_i e; cases e
  · exact q1.elim
theorem s_range2 (gd : Good T k g X c ex S0 H0) {w w' : Sl → Sto → QV → Prop} {tg e e' : Expr} {p pos : Pos} (ha : PE X e (RE g S0 H0 w)) (ha' : PE X e' (RE g S0 H0 w')) (hg : glB (c.kd ("range" : Str)) = true) (hn : noStar e = true) (hn' : noStar e' = true) :
    PI X tg (.Call (.Name "range" p) [e, e'] [] pos) (RI g S0 H0 fun ρ S Q => w ρ S fun d S1 => w' ρ S1 fun d' S2 => rngS [d, d'] S2 Q) := by
  have hm : X.mg "range" = none := by rw [gd.gm]; exact gd.ge.blt _ (by decide +kernel)
  refine (pi_range2 (gd.gl hg) hm (pa_cons ha (pa_cons ha' pa_nil (star_cons hn')) (star_cons hn)) (by rw [star_cons hn, star_cons hn']; rfl) (star_cons hn')).imp fun σ H R h => ?_
  obtain ⟨ρ, S, Qi, r, h, kk⟩ := h
  refine ⟨ρ, S, _, r, h, fun v d S1 H1 rd1 rs1 st1 q1 => ⟨ρ, S1, _, r.step rs1 st1, q1, fun v' d' S2 H2 rd2 rs2 st2 q2 => ?_⟩⟩
  unfold rngS at q2
  split at q2
  · rename_i e; cases e
  · rename_i a b e
    cases e
    exact ⟨a, b, by rw [rd1.ofInt, rd2.ofInt], q2.1, kk _ _ S2 H2 _ rs2 (st1.trans st2) .rng q2.2⟩
  · rename_i e; cases e
  · exact q2.elim
theorem s_range3 (gd : Good T k g X c ex S0 H0) {w w' w'' : Sl → Sto → QV → Prop} {tg e e' e'' : Expr} {p pos : Pos} (ha : PE X e (RE g S0 H0 w)) (ha' : PE X e' (RE g S0 H0 w')) (ha'' : PE X e'' (RE g S0 H0 w'')) (hg : glB (c.kd ("range" : Str)) = true) (hn : noStar e = true) (hn' : noStar e' = true) (hn'' : noStar e'' = true) :
    PI X tg (.Call (.Name "range" p) [e, e', e''] [] pos) (RI g S0 H0 fun ρ S Q => w ρ S fun d S1 => w' ρ S1 fun d' S2 => w'' ρ S2 fun d'' S3 => rngS [d, d', d''] S3 Q) := by
  have hm : X.mg "range" = none := by rw [gd.gm]; exact gd.ge.blt _ (by decide +kernel)
  refine (pi_range3 (gd.gl hg) hm (pa_cons ha (pa_cons ha' (pa_cons ha'' pa_nil (star_cons hn'')) (star_cons hn')) (star_cons hn)) (star_cons hn) (star_any (by rw [List.all_cons, List.all_cons, hn', hn'']; rfl))).imp fun σ H R h => ?_
  obtain ⟨ρ, S, Qi, r, h, kk⟩ := h
  refine ⟨ρ, S, _, r, h, fun v d S1 H1 rd1 rs1 st1 q1 => ⟨ρ, S1, _, r.step rs1 st1, q1, fun v' d' S2 H2 rd2 rs2 st2 q2 => ⟨ρ, S2, _, (r.step rs1 st1).step rs2 st2, q2, fun v'' d'' S3 H3 rd3 rs3 st3 q3 => ?_⟩⟩⟩
  unfold rngS at q3
  split at q3
  · rename_i e; cases e
  · rename_i e; cases e
  · rename_i a b c e
    cases e
    obtain ⟨n, hn, q3⟩ := q3
    exact ⟨a, b, c, n, by rw [rd1.ofInt, rd2.ofInt, rd3.ofInt], hn, kk _ _ S3 H3 _ rs3 ((st1.trans st2).trans st3) .rngC q3⟩
  · exact q3.elim
/-! ### list comprehensions -/
theorem wLc_same {set : D → Sl → (Sl → Prop) → Prop} {test : Sl → Sto → (Bool → Sto → Prop) → Prop} {elt : Sl → Sto → QV → Prop} {same : Sto → Prop} {ρ : Sl} {ds acc : List D} {S : Sto} {Q : List D → Sto → Prop} (h : wLc set test elt same ρ ds acc S Q) : same S := by
  cases ds <;> (unfold wLc at h; exact h.1)
mutual
theorem RD.adopt {S : Sto} {H : Hp} {p : Addr} {o : O} : ∀ (d : D) (v : V), RD (g.busy p) S H d v → RD g (S.set p o) H d v
  | .non, v, h => by unfold RD at *; exact h
  | .bl b, v, h => by unfold RD at *; exact h
  | .int i, v, h => by unfold RD at *; exact h
  | .str s, v, h => by unfold RD at *; exact h
  | .tup xs, v, h => by
    unfold RD at *
    obtain ⟨a, vs, e, k, r⟩ := h
    refine ⟨a, vs, e, ?_, RDs.adopt xs vs r⟩
    rcases k with ⟨k, nb, q⟩ | k
    · have ne : a ≠ p := fun z => nb (by rw [z]; exact List.mem_cons_self ..)
      exact .inl ⟨by rw [Sto.set_ne ne]; exact k, fun z => nb (List.mem_cons_of_mem _ z), q⟩
    · exact .inr k
  | .lst xs, v, h => by
    unfold RD at *
    obtain ⟨a, vs, e, k, nb, q, r⟩ := h
    have ne : a ≠ p := fun z => nb (by rw [z]; exact List.mem_cons_self ..)
    exact ⟨a, vs, e, by rw [Sto.set_ne ne]; exact k, fun z => nb (List.mem_cons_of_mem _ z), q, RDs.adopt xs vs r⟩
  | .lsk xs, v, h => by
    unfold RD at *
    obtain ⟨a, vs, e, k, r⟩ := h
    refine ⟨a, vs, e, ?_, RDs.adopt xs vs r⟩
    rcases k with ⟨k, nb, q⟩ | k
    · have ne : a ≠ p := fun z => nb (by rw [z]; exact List.mem_cons_self ..)
      exact .inl ⟨by rw [Sto.set_ne ne]; exact k, fun z => nb (List.mem_cons_of_mem _ z), q⟩
    · exact .inr k
  | .obj a, v, h => by unfold RD at *; exact h
  | .ty n, v, h => by unfold RD at *; exact h
  | .gl x, v, h => by unfold RD at *; exact h
  | .ins C ns ds, v, h => by
    unfold RD at *
    obtain ⟨a, c, dx, vs, e, ⟨k, nb, q⟩, ⟨k', nb', q'⟩, m, l, r⟩ := h
    have ne : a ≠ p := fun z => nb (by rw [z]; exact List.mem_cons_self ..)
    have ne' : dx ≠ p := fun z => nb' (by rw [z]; exact List.mem_cons_self ..)
    exact ⟨a, c, dx, vs, e, ⟨by rw [Sto.set_ne ne]; exact k, fun z => nb (List.mem_cons_of_mem _ z), q⟩, ⟨by rw [Sto.set_ne ne']; exact k', fun z => nb' (List.mem_cons_of_mem _ z), q'⟩, m, l, RDs.adopt ds vs r⟩
  | .dct ks ds, v, h => by
    unfold RD at *
    obtain ⟨a, qs, vs, e, ⟨k, nb, q⟩, m, l, r⟩ := h
    have ne : a ≠ p := fun z => nb (by rw [z]; exact List.mem_cons_self ..)
    exact ⟨a, qs, vs, e, ⟨by rw [Sto.set_ne ne]; exact k, fun z => nb (List.mem_cons_of_mem _ z), q⟩, m, l, RDs.adopt ds vs r⟩
theorem RDs.adopt {S : Sto} {H : Hp} {p : Addr} {o : O} : ∀ (ds : List D) (vs : List V), RDs (g.busy p) S H ds vs → RDs g (S.set p o) H ds vs
  | [], vs, h => by unfold RDs at *; exact h
  | d :: ds, vs, h => by
    unfold RDs at *
    obtain ⟨v, r, e, h1, h2⟩ := h
    exact ⟨v, r, e, RD.adopt d v h1, RDs.adopt ds r h2⟩
end
/-- the list that was made is an object of its own -/
theorem RS.adopt {S : Sto} {H : Hp} {p : Addr} {o : O} (rs : RS (g.busy p) S H) (hp : ∀ b, H p ≠ some (.own b)) (hb : p ∉ g.B) (new : RO g (S.set p o) H p o) : RS g (S.set p o) H := by
  refine ⟨fun a x hx => ?_, fun b hb' => ?_⟩
  · by_cases ha : a = p
    · subst ha
      rw [Sto.set_same] at hx
      cases hx
      exact ⟨hb, new⟩
    · rw [Sto.set_ne ha] at hx
      obtain ⟨nb, q⟩ := rs.1 a x hx
      refine ⟨fun z => nb (List.mem_cons_of_mem _ z), ?_⟩
      have f := fun d v => RD.adopt (g := g) (p := p) (S := S) (H := H) (o := o) d v
      cases x with
      | lst xs => obtain ⟨vs', h, r'⟩ := q; exact ⟨vs', h, r'.adopt⟩
      | ins C fs =>
        obtain ⟨c', dx, gs, m, h, k', o1, r'⟩ := q
        have nd : dx ≠ p := fun z => hp _ (z ▸ o1)
        exact ⟨c', dx, gs, m, h, ⟨by rw [Sto.set_ne nd]; exact k'.1, fun z => k'.2 (List.mem_cons_of_mem _ z)⟩, o1, r'.via f⟩
      | dct kvs => obtain ⟨gs, h, r'⟩ := q; exact ⟨gs, h, r'.via f⟩
  · obtain ⟨k', o, e⟩ := rs.2 b (List.mem_cons_of_mem _ hb')
    exact ⟨by rw [Sto.set_ne (fun z => hb (by rw [← z]; exact hb'))]; exact k', o, e⟩
/-- whatever lists are being made around -/
def REa (K : PySem.W.Frag) (mg : Str → Option Value) (w : Sl → Sto → QV → Prop) : TE := fun σ H Q => ∃ B S0 H0, RE ⟨K, mg, B⟩ S0 H0 w σ H Q
def RTa (K : PySem.W.Frag) (mg : Str → Option Value) (w : Sl → Sto → (Bool → Sto → Prop) → Prop) : TT := fun σ H Q => ∃ B S0 H0, RT ⟨K, mg, B⟩ S0 H0 w σ H Q
def RGa (K : PySem.W.Frag) (mg : Str → Option Value) (w : D → Sl → (Sl → Prop) → Prop) (is : List Nat) : TG := fun v σ H Q => ∃ B S0 H0, RG ⟨K, mg, B⟩ S0 H0 w is v σ H Q
theorem lc_read {K : PySem.W.Frag} {mg : Str → Option Value} {B : List Addr} {fz : Bool} {is : List Nat} {wi : Sl → Sto → (List D → (Sto → Prop) → Sto → Prop) → Prop} {wg : D → Sl → (Sl → Prop) → Prop} {wt : Sl → Sto → (Bool → Sto → Prop) → Prop} {we : Sl → Sto → QV → Prop} {σ : L2.St} {H : Hp} {Q : VK}
    (h : RE ⟨K, mg, B⟩ S0 H0 (fun ρ S Q => wi ρ S fun ds same S1 => wLc wg wt we same (wipeD ρ is) ds [] S1 fun ys S2 => newL fz ys S2 Q) σ H Q) :
    tLc (RI ⟨K, mg, B⟩ S0 H0 wi) (RGa K mg wg is) (RTa K mg wt) (REa K mg we) is σ H Q := by
  obtain ⟨ρ, S, Qd, r, h, kk⟩ := h
  refine ⟨ρ, S, _, r, h, fun ds same S1 H1 J rs1 st1 itr q1 p hp => ?_⟩
  let gb : Gx := Gx.busy ⟨K, mg, B⟩ p
  have r1 := (r.step rs1 st1).wipe is
  refine ⟨fun i m H' => ∃ S' acc vs, m = ds.length - i ∧ i ≤ ds.length ∧ RS gb S' H' ∧ Step S1 H1 S' H' ∧ H' p = some (.lst vs) ∧ RDs gb S' H' acc vs ∧ ItR gb J ds same S' H' ∧
    (∀ (j : Nat) (d : D), (wipeD ρ is)[j]? = some (some d) → ∃ v, (wipe σ is)[j]? = some (some v) ∧ RD gb S' H' d v) ∧ wLc wg wt we same (wipeD ρ is) (ds.drop i) acc S' fun ys S2 => newL fz ys S2 Qd, ?_, ?_⟩
  · refine ⟨_, S1, [], [], rfl, Nat.zero_le _, rs1.busy hp, (rs1.frozen hp).2, upd_same, RDs.nil, itr.busy hp, fun j d e => ?_, q1⟩
    obtain ⟨v, e1, rd⟩ := r1.sl j d e
    exact ⟨v, e1, rd.busy hp⟩
  · rintro i m H' ⟨S', acc, vs, rfl, hi, rs', st', hpv, racc, itr', sl', hw⟩
    have hb : p ∉ B := rs1.fresh hp
    have hsp : S' p = none := (rs'.2 p (List.mem_cons_self ..)).1
    obtain ⟨hgo, hstop⟩ := itr'.get rs'
    by_cases hlt : i < ds.length
    · right
      have hd : ds[i]? = some ds[i] := List.getElem?_eq_getElem hlt
      rw [List.drop_eq_getElem_cons hlt] at hw
      unfold wLc at hw
      obtain ⟨hsame, hw⟩ := hw
      refine ⟨(hgo i _ hd).1, _, fun H'' h => h, fun x H'' hy => ?_⟩
      obtain ⟨rs2, st2, rd2⟩ := (hgo i _ hd).2 x H'' hy
      have rl : Rl gb S' H'' (wipeD ρ is) S' (wipe σ is) H'' := ⟨r1.len, fun j d e => by obtain ⟨v, e1, rd⟩ := sl' j d e; exact ⟨v, e1, rd.mono st2⟩, rs2, Step.refl _ _⟩
      have hp2 : H'' p = some (.lst vs) := (st2 p _ hpv hsp).1
      have next : ∀ S4 H4 acc' vs', RS gb S4 H4 → Step S' H'' S4 H4 → H4 p = some (.lst vs) → RDs gb S4 (upd H4 p (.lst vs')) acc' vs' → wLc wg wt we same (wipeD ρ is) (ds.drop (i + 1)) acc' S4 (fun ys S2 => newL fz ys S2 Qd) →
          ∃ m', m' < ds.length - i ∧ ∃ S' acc vs, m' = ds.length - (i + 1) ∧ i + 1 ≤ ds.length ∧ RS gb S' (upd H4 p (.lst vs')) ∧ Step S1 H1 S' (upd H4 p (.lst vs')) ∧ (upd H4 p (.lst vs')) p = some (.lst vs) ∧ RDs gb S' (upd H4 p (.lst vs')) acc vs ∧ ItR gb J ds same S' (upd H4 p (.lst vs')) ∧
    (∀ (j : Nat) (d : D), (wipeD ρ is)[j]? = some (some d) → ∃ v, (wipe σ is)[j]? = some (some v) ∧ RD gb S' (upd H4 p (.lst vs')) d v) ∧ wLc wg wt we same (wipeD ρ is) (ds.drop (i + 1)) acc S' fun ys S2 => newL fz ys S2 Qd := by
        intro S4 H4 acc' vs' rs4 st4 hp4 racc' hw4
        refine ⟨_, by omega, S4, acc', vs', rfl, hlt, rs4.turn (fun b z => by rw [hp4] at z; cases z), ?_, upd_same, racc', ((itr'.step (st2.trans st4) (wLc_same hw4))).turn, fun j d e => ?_, hw4⟩
        · intro a o ha hs
          have h3 := (st'.trans (st2.trans st4)) a o ha hs
          exact ⟨by rw [upd_ne (ne_of_none ha hp)]; exact h3.1, h3.2⟩
        · obtain ⟨v, e1, rd⟩ := sl' j d e
          exact ⟨v, e1, ((rd.mono st2).mono st4).turn⟩
      refine ⟨gb.B, S', H'', _, _, S', _, rd2, rl, hw, fun ρ2 σ2 r2 hwp q2 => ⟨(hwp is fun i hi => hi).trans wipe_wipe, gb.B, S', H'', ρ2, S', _, r2, q2, fun b S3 H3 rs3 st3 q3 => ?_⟩⟩
      have hp3 : H3 p = some (.lst vs) := (st3 p _ hp2 hsp).1
      have hsp3 : S3 p = none := (st3 p _ hp2 hsp).2
      cases b with
      | true =>
        refine ⟨gb.B, S', H'', ρ2, S3, _, r2.step rs3 st3, q3, fun v y S4 H4 rd4 rs4 st4 q4 => ?_⟩
        have hp4 : H4 p = some (.lst vs) := (st4 p _ hp3 hsp3).1
        refine ⟨vs, hp4, by rw [← racc.length]; exact lim_size' q4.1, next S4 H4 (acc ++ [y]) (vs ++ [v]) rs4 (st3.trans st4) hp4 ?_ q4.2⟩
        exact ((((racc.mono st2).mono st3).mono st4).append (RDs.cons rd4 RDs.nil)).turn
      | false =>
        have e3 : upd H3 p (.lst vs) = H3 := by
          funext a
          by_cases ha : a = p
          · subst ha; rw [upd_same, hp3]
          · rw [upd_ne ha]
        have := next S3 H3 acc vs rs3 st3 hp3 (by rw [e3]; exact (racc.mono st2).mono st3) q3
        rw [e3] at this
        exact this
    · left
      have he : i = ds.length := by omega
      rw [he, List.drop_length] at hw
      unfold wLc at hw
      refine ⟨hstop i he, ?_⟩
      have q : newL fz acc S' Qd := hw.2
      unfold newL at q
      by_cases hf : fz = true
      · rw [if_pos hf] at q
        refine kk (.ref p) (.lst acc) S' H' ?_ rs'.idle (st1.trans st') q
        unfold RD
        exact ⟨p, vs, rfl, hsp, hb, .inl hpv, racc.idle⟩
      · rw [if_neg hf] at q
        refine kk (.ref p) (.obj p) _ H' rd_obj (rs'.adopt (o := .lst acc) (fun b z => by rw [hpv] at z; cases z) hb ⟨vs, hpv, racc.adopt⟩) (st1.trans fun a o ha hs => ?_) (q p hsp)
        have h3 := st' a o ha hs
        exact ⟨h3.1, by rw [Sto.set_ne (ne_of_none ha hp)]; exact h3.2⟩
/-! ### dict comprehensions -/
theorem wDc_same {set : D → Sl → (Sl → Prop) → Prop} {test : Sl → Sto → (Bool → Sto → Prop) → Prop} {kx vx : Sl → Sto → QV → Prop} {same : Sto → Prop} {ρ : Sl} {ds : List D} {acc : List (D × D)} {S : Sto} {Q : List (D × D) → Sto → Prop} (h : wDc set test kx vx same ρ ds acc S Q) : same S := by
  cases ds <;> (unfold wDc at h; exact h.1)
theorem RKs.append {S : Sto} {H : Hp} : ∀ {a b : List (D × D)} {x y : List (Key × V)}, RKs g S H a x → RKs g S H b y → RKs g S H (a ++ b) (x ++ y)
  | [], b, x, y, h, k => by
    have e : x = [] := h
    subst e
    exact k
  | (d, e) :: a, b, x, y, ⟨q, v, r, e', hk, h1, h2⟩, k => by
    subst e'
    exact ⟨q, v, r ++ y, rfl, hk, h1, RKs.append h2 k⟩
theorem putKD_put {S : Sto} {H : Hp} {k d : D} {q : Key} {v : V} (hq : toKey k = some q) (rd : RD g S H d v) {kvs : List (D × D)} {gs : List (Key × V)} (r : RKs g S H kvs gs) : RKs g S H (putKD kvs k d) (putK gs q v) := by
  have any : ∀ {kvs : List (D × D)} {gs : List (Key × V)}, RKs g S H kvs gs → kvs.any (keyB k) = gs.any (fun p => decide (p.1 = q)) := by
    intro kvs
    induction kvs with
    | nil => intro gs r; have e : gs = [] := r; subst e; rfl
    | cons p kvs ih =>
      obtain ⟨x, y⟩ := p
      rintro gs ⟨q', v', gs', rfl, hk, r1, r2⟩
      rw [List.any_cons, List.any_cons, ih r2]
      congr 1
      unfold keyB
      rw [hk, hq]
      exact decide_eq_decide.mpr ⟨fun e => Option.some.inj e, fun e => congrArg some e⟩
  have mp : ∀ {kvs : List (D × D)} {gs : List (Key × V)}, RKs g S H kvs gs → RKs g S H (kvs.map fun p => if keyB k p = true then (p.1, d) else p) (gs.map fun p => if p.1 = q then (p.1, v) else p) := by
    intro kvs
    induction kvs with
    | nil => intro gs r; have e : gs = [] := r; subst e; rfl
    | cons p kvs ih =>
      obtain ⟨x, y⟩ := p
      rintro gs ⟨q', v', gs', rfl, hk, r1, r2⟩
      rw [List.map_cons, List.map_cons]
      by_cases e : q' = q
      · have e1 : keyB k (x, y) = true := by unfold keyB; rw [decide_eq_true_eq]; rw [hk, hq, e]
        rw [if_pos e1, if_pos e]
        exact ⟨q', v, _, rfl, hk, rd, ih r2⟩
      · have e1 : ¬ keyB k (x, y) = true := by unfold keyB; rw [decide_eq_true_eq]; rw [hk, hq]; exact fun z => e (Option.some.inj z)
        rw [if_neg e1, if_neg e]
        exact ⟨q', v', _, rfl, hk, r1, ih r2⟩
  unfold putKD putK
  rw [any r]
  split
  · exact mp r
  · exact r.append ⟨q, v, [], rfl, hq, rd, rfl⟩
theorem putKD_len {k d : D} (kvs : List (D × D)) : (putKD kvs k d).length ≤ kvs.length + 1 := by
  unfold putKD
  split
  · rw [List.length_map]; omega
  · rw [List.length_append]; simp
theorem RKs.length {S : Sto} {H : Hp} : ∀ {a : List (D × D)} {x : List (Key × V)}, RKs g S H a x → a.length = x.length
  | [], x, h => by
    have e : x = [] := h
    subst e
    rfl
  | (d, e) :: a, x, ⟨q, v, r, e', hk, h1, h2⟩ => by
    subst e'
    rw [List.length_cons, List.length_cons, RKs.length h2]
theorem RKs.unzip {S : Sto} {H : Hp} : ∀ {a : List (D × D)} {x : List (Key × V)}, RKs g S H a x → x = (x.map (·.1)).zip (x.map (·.2)) ∧ (a.map (·.1)).map toKey = (x.map (·.1)).map some ∧ RDs g S H (a.map (·.2)) (x.map (·.2))
  | [], x, h => by
    have e : x = [] := h
    subst e
    exact ⟨rfl, rfl, RDs.nil⟩
  | (d, e) :: a, x, ⟨q, v, r, e', hk, h1, h2⟩ => by
    subst e'
    obtain ⟨i1, i2, i3⟩ := RKs.unzip h2
    refine ⟨congrArg ((q, v) :: ·) i1, ?_, RDs.cons h1 i3⟩
    show toKey d :: _ = some q :: _
    rw [hk, i2]
theorem dc_read {K : PySem.W.Frag} {mg : Str → Option Value} {B : List Addr} {fz : Bool} {is : List Nat} {wi : Sl → Sto → (List D → (Sto → Prop) → Sto → Prop) → Prop} {wg : D → Sl → (Sl → Prop) → Prop} {wt : Sl → Sto → (Bool → Sto → Prop) → Prop} {wk we : Sl → Sto → QV → Prop} {σ : L2.St} {H : Hp} {Q : VK}
    (h : RE ⟨K, mg, B⟩ S0 H0 (fun ρ S Q => wi ρ S fun ds same S1 => wDc wg wt wk we same (wipeD ρ is) ds [] S1 fun kvs S2 => ∀ a, S2 a = none → newDc fz a kvs S2 Q) σ H Q) :
    tDc (RI ⟨K, mg, B⟩ S0 H0 wi) (RGa K mg wg is) (RTa K mg wt) (REa K mg wk) (REa K mg we) is σ H Q := by
  obtain ⟨ρ, S, Qd, r, h, kk⟩ := h
  refine ⟨ρ, S, _, r, h, fun ds same S1 H1 J rs1 st1 itr q1 p hp => ?_⟩
  let gb : Gx := Gx.busy ⟨K, mg, B⟩ p
  have r1 := (r.step rs1 st1).wipe is
  refine ⟨fun i m H' => ∃ S' acc vs, m = ds.length - i ∧ i ≤ ds.length ∧ RS gb S' H' ∧ Step S1 H1 S' H' ∧ H' p = some (.dK vs) ∧ RKs gb S' H' acc vs ∧ ItR gb J ds same S' H' ∧
    (∀ (j : Nat) (d : D), (wipeD ρ is)[j]? = some (some d) → ∃ v, (wipe σ is)[j]? = some (some v) ∧ RD gb S' H' d v) ∧ wDc wg wt wk we same (wipeD ρ is) (ds.drop i) acc S' fun kvs S2 => ∀ a, S2 a = none → newDc fz a kvs S2 Qd, ?_, ?_⟩
  · refine ⟨_, S1, [], [], rfl, Nat.zero_le _, rs1.busy hp, (rs1.frozen hp).2, upd_same, rfl, itr.busy hp, fun j d e => ?_, q1⟩
    obtain ⟨v, e1, rd⟩ := r1.sl j d e
    exact ⟨v, e1, rd.busy hp⟩
  · rintro i m H' ⟨S', acc, vs, rfl, hi, rs', st', hpv, racc, itr', sl', hw⟩
    have hb : p ∉ B := rs1.fresh hp
    have hsp : S' p = none := (rs'.2 p (List.mem_cons_self ..)).1
    obtain ⟨hgo, hstop⟩ := itr'.get rs'
    by_cases hlt : i < ds.length
    · right
      have hd : ds[i]? = some ds[i] := List.getElem?_eq_getElem hlt
      rw [List.drop_eq_getElem_cons hlt] at hw
      unfold wDc at hw
      obtain ⟨hsame, hw⟩ := hw
      refine ⟨(hgo i _ hd).1, _, fun H'' h => h, fun x H'' hy => ?_⟩
      obtain ⟨rs2, st2, rd2⟩ := (hgo i _ hd).2 x H'' hy
      have rl : Rl gb S' H'' (wipeD ρ is) S' (wipe σ is) H'' := ⟨r1.len, fun j d e => by obtain ⟨v, e1, rd⟩ := sl' j d e; exact ⟨v, e1, rd.mono st2⟩, rs2, Step.refl _ _⟩
      have hp2 : H'' p = some (.dK vs) := (st2 p _ hpv hsp).1
      have next : ∀ S4 H4 acc' vs', RS gb S4 H4 → Step S' H'' S4 H4 → H4 p = some (.dK vs) → RKs gb S4 (upd H4 p (.dK vs')) acc' vs' → wDc wg wt wk we same (wipeD ρ is) (ds.drop (i + 1)) acc' S4 (fun kvs S2 => ∀ a, S2 a = none → newDc fz a kvs S2 Qd) →
          ∃ m', m' < ds.length - i ∧ ∃ S' acc vs, m' = ds.length - (i + 1) ∧ i + 1 ≤ ds.length ∧ RS gb S' (upd H4 p (.dK vs')) ∧ Step S1 H1 S' (upd H4 p (.dK vs')) ∧ (upd H4 p (.dK vs')) p = some (.dK vs) ∧ RKs gb S' (upd H4 p (.dK vs')) acc vs ∧ ItR gb J ds same S' (upd H4 p (.dK vs')) ∧
    (∀ (j : Nat) (d : D), (wipeD ρ is)[j]? = some (some d) → ∃ v, (wipe σ is)[j]? = some (some v) ∧ RD gb S' (upd H4 p (.dK vs')) d v) ∧ wDc wg wt wk we same (wipeD ρ is) (ds.drop (i + 1)) acc S' fun kvs S2 => ∀ a, S2 a = none → newDc fz a kvs S2 Qd := by
        intro S4 H4 acc' vs' rs4 st4 hp4 racc' hw4
        refine ⟨_, by omega, S4, acc', vs', rfl, hlt, rs4.turn (fun b z => by rw [hp4] at z; cases z), ?_, upd_same, racc', ((itr'.step (st2.trans st4) (wDc_same hw4))).turn, fun j d e => ?_, hw4⟩
        · intro a o ha hs
          have h3 := (st'.trans (st2.trans st4)) a o ha hs
          exact ⟨by rw [upd_ne (ne_of_none ha hp)]; exact h3.1, h3.2⟩
        · obtain ⟨v, e1, rd⟩ := sl' j d e
          exact ⟨v, e1, ((rd.mono st2).mono st4).turn⟩
      refine ⟨gb.B, S', H'', _, _, S', _, rd2, rl, hw, fun ρ2 σ2 r2 hwp q2 => ⟨(hwp is fun i hi => hi).trans wipe_wipe, gb.B, S', H'', ρ2, S', _, r2, q2, fun b S3 H3 rs3 st3 q3 => ?_⟩⟩
      have hp3 : H3 p = some (.dK vs) := (st3 p _ hp2 hsp).1
      have hsp3 : S3 p = none := (st3 p _ hp2 hsp).2
      cases b with
      | true =>
        refine ⟨gb.B, S', H'', ρ2, S3, _, r2.step rs3 st3, q3, fun v x4 S4 H4 rd4 rs4 st4 q4 => ⟨gb.B, S', H'', ρ2, S4, _, (r2.step rs3 st3).step rs4 st4, q4, fun u y S5 H5 rd5 rs5 st5 q5 => ?_⟩⟩
        obtain ⟨hk, hl, q5⟩ := q5
        obtain ⟨q, hq⟩ := Option.isSome_iff_exists.mp hk
        have hp4 : H4 p = some (.dK vs) := (st4 p _ hp3 hsp3).1
        have hsp4 : S4 p = none := (st4 p _ hp3 hsp3).2
        have hp5 : H5 p = some (.dK vs) := (st5 p _ hp4 hsp4).1
        refine ⟨vs, q, key_rd (rd4.mono st5) hq, hp5, by rw [← racc.length]; exact lim_size' hl, next S5 H5 _ _ rs5 ((st3.trans st4).trans st5) hp5 ?_ q5⟩
        exact RKs.via (g := gb) (g' := gb) (fun d v => RD.turn (g := ⟨K, mg, B⟩) (p := p) d v) (putKD_put hq rd5 ((((racc.mono st2).mono st3).mono st4).mono st5))
      | false =>
        have e3 : upd H3 p (.dK vs) = H3 := by
          funext a
          by_cases ha : a = p
          · subst ha; rw [upd_same, hp3]
          · rw [upd_ne ha]
        have := next S3 H3 acc vs rs3 st3 hp3 (by rw [e3]; exact (racc.mono st2).mono st3) q3
        rw [e3] at this
        exact this
    · left
      have he : i = ds.length := by omega
      rw [he, List.drop_length] at hw
      unfold wDc at hw
      refine ⟨hstop i he, ?_⟩
      have q : newDc fz p acc S' Qd := hw.2 p hsp
      unfold newDc at q
      by_cases hf : fz = true
      · rw [if_pos hf] at q
        have ed : S'.del p = S' := by
          funext a
          unfold Sto.del
          split
          · rename_i z; rw [z, hsp]
          · rfl
        rw [ed] at q
        obtain ⟨u1, u2, u3⟩ := RKs.unzip racc
        refine kk (.ref p) (.dct (acc.map (·.1)) (acc.map (·.2))) S' H' ?_ rs'.idle (st1.trans st') q
        unfold RD
        exact ⟨p, vs.map (·.1), vs.map (·.2), rfl, ⟨hsp, hb, by rw [← u1]; exact hpv⟩, u2, by rw [List.length_map, List.length_map], u3.idle⟩
      · rw [if_neg hf] at q
        refine kk (.ref p) (.obj p) _ H' rd_obj (rs'.adopt (o := .dct acc) (fun b z => by rw [hpv] at z; cases z) hb ⟨vs, hpv, racc.via fun d v => RD.adopt d v⟩) (st1.trans fun a o ha hs => ?_) q
        have h3 := st' a o ha hs
        exact ⟨h3.1, by rw [Sto.set_ne (ne_of_none ha hp)]; exact h3.2⟩
end
end G
/-! GT: sorted(set(x)) of lists, tuples, texts. -/
namespace G
open PySem L2 PyProof.Rows
section
variable {P : Program} {w : World} {A : Around} {E : Value → Shared → Prop} {s : Shared} {κ : Type} [DecidableEq κ] {knd : PySem.KeyKind P w κ}
theorem ssrc_list {h0 : Heap} {l : Addr} {items : List Value} {ks : List κ} (hl : h0.IsList l items.toArray) (hn : items.length = ks.length) (hb : ks.length + 1 < scanBound)
    (hval : ∀ (i : Nat) (v : Value), items[i]? = some v → ∃ k, ks[i]? = some k ∧ knd.is k v = true ∧ v.scannable = true) : SSrc P w E knd h0 (.ref l) ks := by
  have hlt : l < h0.objs.size := by obtain ⟨o, ho, _⟩ := hl; exact Heap.lt_size ho
  refine ssrc_walk (o := { cls := .type "list_iterator", data := .fields #[.ref l, .int 0 0] }) (ax := [l]) (Pv := fun i v => items.toArray[i]? = some v) (St := fun I i h => h.IsListIter I l i ∧ h.IsList l items.toArray)
    (fun b hb => by rw [List.mem_singleton] at hb; subst hb; exact hlt) rfl (fun A' s' Q' ext q => wpAny_pyIter_list (hl.at fun o e => ext l o e) q) (fun A' I hh hI => ?_) (fun h' I ext e => ⟨⟨_, e, rfl, rfl⟩, hl.at fun o e => ext l o e⟩) hb
    (fun i v e => hval i v (by simpa using e))
  have hsz : items.toArray.size = ks.length := by simpa using hn
  rw [← hsz]
  exact Walks.list hh I l (fun e => hI (by simp [e])) items.toArray
theorem ssrc_tuple {h0 : Heap} {l : Addr} {items : List Value} {ks : List κ} (hl : h0.IsTuple l items.toArray) (hn : items.length = ks.length) (hb : ks.length + 1 < scanBound)
    (hval : ∀ (i : Nat) (v : Value), items[i]? = some v → ∃ k, ks[i]? = some k ∧ knd.is k v = true ∧ v.scannable = true) : SSrc P w E knd h0 (.ref l) ks := by
  have hlt : l < h0.objs.size := by obtain ⟨o, ho, _⟩ := hl; exact Heap.lt_size ho
  refine ssrc_walk (o := { cls := .type "tuple_iterator", data := .fields #[.ref l, .int 0 0] }) (ax := [l]) (Pv := fun i v => items.toArray[i]? = some v) (St := fun I i h => h.IsTupleIter I l i ∧ h.IsTuple l items.toArray)
    (fun b hb => by rw [List.mem_singleton] at hb; subst hb; exact hlt) rfl (fun A' s' Q' ext q => wpAny_pyIter_tuple (hl.at fun o e => ext l o e) q) (fun A' I hh hI => ?_) (fun h' I ext e => ⟨⟨_, e, rfl, rfl⟩, hl.at fun o e => ext l o e⟩) hb
    (fun i v e => hval i v (by simpa using e))
  have hsz : items.toArray.size = ks.length := by simpa using hn
  rw [← hsz]
  exact Walks.tuple hh I l (fun e => hI (by simp [e])) items.toArray
theorem ssrc_str {h0 : Heap} {x : Str} {t : Tok} (hb : x.cps.size + 1 < scanBound) : SSrc P w E (PySem.strKind P w) h0 (.str x t) (x.cps.toList.map fun c => mkS [c]) := by
  have hsz : x.cps.size = (x.cps.toList.map fun c => mkS [c]).length := by simp
  have hv : ∀ i v, SignAt x i v → ∃ k, (x.cps.toList.map fun c => mkS [c])[i]? = some k ∧ (PySem.strKind P w).is k v = true ∧ v.scannable = true := by
    intro i v hv
    obtain ⟨c, tk, hc, rfl⟩ := hv
    refine ⟨mkS [c], ?_, ?_, rfl⟩
    · rw [List.getElem?_map, Array.getElem?_toList, hc]; rfl
    · exact strKind_is _ _ _ _
  have go : ∀ n : String, x.cps.all (· < 128) = (n == "str_ascii_iterator") → (n = "str_ascii_iterator" ∨ n = "str_iterator") → SSrc P w E (PySem.strKind P w) h0 (.str x t) (x.cps.toList.map fun c => mkS [c]) := by
    intro n ha hn
    refine ssrc_walk (o := { cls := .type n, data := .fields #[.str x t, .int 0 0] }) (ax := []) (Pv := SignAt x) (St := fun I i h => h.IsStrIter I n x t i) (fun b hb => by cases hb) rfl (fun A' s' Q' ext q => ?_) (fun A' I hh hI => ?_)
      (fun h' I ext e => ⟨_, e, rfl, rfl⟩) (by rw [← hsz]; exact hb) hv
    · rcases hn with rfl | rfl
      · exact wpAny_pyIter_ascii (by rw [ha]; rfl) q
      · exact wpAny_pyIter_wide (by rw [ha]; rfl) q
    · rw [← hsz]
      rcases hn with rfl | rfl
      · exact Walks.strAscii hh I x t
      · exact Walks.strWide hh I x t
  cases ha : x.cps.all (· < 128)
  · exact go "str_iterator" (by rw [ha]; rfl) (.inr rfl)
  · exact go "str_ascii_iterator" (by rw [ha]; rfl) (.inl rfl)
theorem strs_of {vs : List Value} : (∀ v ∈ vs, ∃ x t, v = .str x t) → ∃ xs, StrsAre vs xs := by
  induction vs with
  | nil => exact fun _ => ⟨[], .nil⟩
  | cons v vs ih =>
    intro h
    obtain ⟨x, t, rfl⟩ := h v (by simp)
    obtain ⟨xs, hx⟩ := ih fun u hu => h u (by simp [hu])
    exact ⟨x :: xs, .cons x t hx⟩
theorem strs_mem {k : Str} {t : Tok} : ∀ {vs : List Value} {xs : List Str}, StrsAre vs xs → Value.str k t ∈ vs → k ∈ xs
  | _, _, .nil, h => by cases h
  | _, _, .cons x u r, h => by
    rcases List.mem_cons.mp h with e | h
    · cases e; simp
    · exact List.mem_cons_of_mem _ (strs_mem r h)
theorem perm_of_sub {α : Type} [DecidableEq α] : ∀ {l m : List α}, l.Nodup → (∀ x ∈ l, x ∈ m) → m.length = l.length → m.Perm l
  | [], m, _, _, hl => by
    rw [List.length_nil, List.length_eq_zero_iff] at hl
    rw [hl]
  | x :: l, m, nd, hs, hl => by
    have hx := hs x (by simp)
    have p := List.perm_cons_erase hx
    rw [List.nodup_cons] at nd
    refine p.trans ((perm_of_sub nd.2 (fun y hy => ?_) ?_).cons x)
    · have := p.mem_iff.mp (hs y (by simp [hy]))
      rcases List.mem_cons.mp this with e | e
      · subst e; exact absurd hy nd.1
      · exact e
    · have := p.length_eq
      simp only [List.length_cons] at this hl
      omega
/-- sorted(a) of a set of texts -/
theorem sorted_sgS {a : Addr} {l : List Str} {Q : Value → Shared → Prop} (R : SG (PySem.strKind P w) s.heap a l) (hh : A.handled = none)
    (hQ : ∀ s' p (out : Array Value) (c : Nat) (ss : List Str), (∀ b o, s.heap.get? b = some o → s'.heap.get? b = some o) → s'.gens = s.gens → s'.os = s.os → s.heap.objs.size ≤ p →
      s'.heap.get? p = some (seqObj "list" out c) → StrsAre out.toList ss → sortedS ss = true → ss.Perm l → ss.Nodup → ss.length < scanBound → Q (.ref p) s') :
    wpAny (model P w) A (call (.builtin "sorted") [.ref a]) Q E s := by
  obtain ⟨o, es, ep, t, ho, hex, hd, el, hm, hn, nd, hb, hf, hr, hl⟩ := R
  refine Calls.call_function_entry kind_sorted plain_sorted entry_sorted (args_sorted1 _) ?_
  unfold Builtin.«sorted»
  refine wpAny_bind (m := checkCount "sorted" 1 1 _) (wpAny_pure ?_)
  refine wpAny_bind (collect_set (A := A.in1) hh ⟨o, ho, hex.1, hd⟩ hf hb hr hl fun s1 vs k1 hz g1 o1 pm => ?_)
  have hvl : vs.length = l.length := by rw [pm.length_eq, List.length_map, Array.length_toList]; exact hn
  have hsh : ∀ v ∈ vs, ∃ k t, v = .str k t ∧ k ∈ l := fun v hv => by
    obtain ⟨e, he, rfl⟩ := List.mem_map.mp (pm.mem_iff.mp hv)
    obtain ⟨⟨k, hk, _⟩, _⟩ := el e he
    obtain ⟨t, ev⟩ := Value.isStrOf_shape (x := k) (v := e.2) hk
    exact ⟨k, t, ev, (hm k).mpr ⟨e, he, hk⟩⟩
  obtain ⟨xs, hS⟩ := strs_of fun v hv => let ⟨k, t, e, _⟩ := hsh v hv; ⟨k, t, e⟩
  have hb' : vs.length < scanBound := by rw [hvl, ← hn]; exact hb
  have hsz : vs.length ≤ sizeLine := Nat.le_trans (Nat.le_of_lt hb') (by decide)
  have hxl : xs.length = vs.length := (StrsAre.length hS).symm
  have pl : xs.Perm l := by
    refine perm_of_sub nd (fun k hk => ?_) (by omega)
    obtain ⟨e, he, hk'⟩ := (hm k).mp hk
    obtain ⟨t, ev⟩ := Value.isStrOf_shape (x := k) (v := e.2) hk'
    have hv : Value.str k t ∈ vs := pm.mem_iff.mpr (List.mem_map.mpr ⟨e, he, ev⟩)
    exact strs_mem hS hv
  refine wpAny_bind (wpAny_newList ?_ hsz)
  have hoL : (s1.heap.push (seqObj "list" vs.toArray 0)).get? s1.heap.objs.size = some (seqObj "list" vs.toArray 0) := Heap.get?_push_size _ rfl
  refine wpAny_bind (wpAny_holding (wpAny_call_entry slot_list_sort ⟨_, hoL, rfl⟩ entry_list_sort
    (list_sort_treeKAny strKind_oneLt (s := { s1 with heap := s1.heap.push (seqObj "list" vs.toArray 0) }) hoL hS.keysOf (fun v₁ v₂ rest e => keyKind_strs (by rw [← e]; exact hS)) hsz fun st' hp hs => ⟨_, rfl, ?_⟩) (args_list_sort _)))
  obtain ⟨ys, g1', g2, g3⟩ := sorted_out_str hS hp hs
  obtain ⟨c, hc⟩ := sortedHeap_at (vs := vs) (out := (arrOf st').map (·.2)) hoL
  have pn : ys.Perm l := g2.trans pl
  refine wpAny_pure ⟨_, rfl, hQ _ s1.heap.objs.size _ c ys (fun b u e => ?_) g1 o1 hz hc g1' g3 pn (pn.nodup_iff.mpr nd) (by rw [pn.length_eq, ← hvl]; exact hb')⟩
  have q := k1 b u e
  have hlt := Heap.lt_size q
  show (sortedHeap (s1.heap.push (seqObj "list" vs.toArray 0)) s1.heap.objs.size vs _).get? b = some u
  rw [sortedHeap_old (Nat.ne_of_lt hlt) (by rw [size_push']; exact Nat.lt_succ_of_lt hlt)]
  exact Heap.get?_push_of_some _ q
end
section
variable {X : Cx}
def tSset (K : PySem.W.Frag) (ta : TE) : TE := fun σ H Q => ta σ H fun x H1 => (∃ (r : Sr) (xs : List Str), x = r.val ∧ r.has K H1 (xs.map V.str) ∧ xs.length < 4000 ∧
    ∀ (ss : List Str) (p : Addr), sortedS ss = true → ss.Nodup → (∀ k, k ∈ ss ↔ k ∈ xs) → H1 p = none → Q (.ref p) (upd H1 p (.lst (ss.map V.str)))) ∨
  ∃ (a : Addr) (ns : List Int), x = .ref a ∧ (SqL K H1 a (ns.map V.int) ∨ SqT K H1 a (ns.map V.int)) ∧ ns.length < 64 ∧
    ∀ (ms : List Int) (p : Addr), ms.Pairwise (· < ·) → (∀ k, k ∈ ms ↔ k ∈ ns) → H1 p = none → Q (.ref p) (upd H1 p (.lst (ms.map V.int)))
theorem nodup_le {α : Type} [DecidableEq α] : ∀ {l m : List α}, l.Nodup → (∀ x ∈ l, x ∈ m) → l.length ≤ m.length
  | [], m, _, _ => Nat.zero_le _
  | x :: l, m, nd, hs => by
    have hx := hs x (by simp)
    rw [List.nodup_cons] at nd
    have p := List.perm_cons_erase hx
    have ih := nodup_le (l := l) (m := m.erase x) nd.2 fun y hy => by
      rcases List.mem_cons.mp (p.mem_iff.mp (hs y (by simp [hy]))) with e | e
      · subst e; exact absurd hy nd.1
      · exact e
    rw [p.length_eq, List.length_cons, List.length_cons]
    omega
/-- a set of ints, as the kit tells it -/
theorem setR_of {P : Program} {w : World} {h : Heap} {a : Addr} {l : List Int} (R : SG (PySem.intKind P w) h a l) : SetR w h a (fun k => decide (k ∈ l)) l.length := by
  obtain ⟨o, es, ep, t, ho, hex, hd, el, hm, hn, nd, hb, hf, hr, hl⟩ := R
  have sh : ∀ e ∈ es.toList, ∃ k tk, e.2 = Value.int k tk ∧ e.1 = hashInt k := fun e he => by
    obtain ⟨⟨k, hk, hh⟩, _⟩ := el e he
    obtain ⟨tk, ev⟩ := Value.isInt_shape (k := k) (v := e.2) hk
    exact ⟨k, tk, ev, hh⟩
  have mk : ∀ k, k ∈ l ↔ k ∈ es.toList.map keyOf := fun k => by
    rw [hm k, List.mem_map]
    constructor
    · rintro ⟨e, he, hk⟩
      obtain ⟨tk, ev⟩ := Value.isInt_shape (k := k) (v := e.2) hk
      exact ⟨e, he, by unfold keyOf; rw [ev]⟩
    · rintro ⟨e, he, rfl⟩
      obtain ⟨k, tk, ev, _⟩ := sh e he
      refine ⟨e, he, ?_⟩
      have : keyOf e = k := by unfold keyOf; rw [ev]
      rw [this, ev]
      exact intKind_is P w k tk
  have pm : (es.toList.map keyOf).Perm l := perm_of_sub nd (fun x hx => (mk x).mp hx) (by rw [List.length_map, Array.length_toList]; exact hn)
  exact ⟨o, es, ep, t, ho, hex, hd, sh, pm.nodup_iff.mpr nd, fun k => by rw [decide_eq_true_eq]; exact mk k, hb, hf, hn, hr, hl⟩
theorem ints_val {ys : List Int} {us : List Value} (r : Vals (ys.map V.int) us) : us.length = ys.length ∧ ∀ (i : Nat) (v : Value), us[i]? = some v → ∃ k, ys[i]? = some k ∧ (∃ t, v = .int k t) := by
  induction ys generalizing us with
  | nil => cases r; exact ⟨rfl, fun i v e => by simp at e⟩
  | cons y ys ih =>
    cases r with
    | cons r0 r1 =>
      obtain ⟨t, rfl⟩ := r0
      obtain ⟨i1, i2⟩ := ih r1
      refine ⟨by simp [i1], fun i v e => ?_⟩
      cases i with
      | zero => simp at e; subst e; exact ⟨y, rfl, t, rfl⟩
      | succ i => exact i2 i v (by simpa using e)
theorem boot_st : bootBuiltins "set" = some (.type "set") := by decide +kernel
theorem boot_so : bootBuiltins "sorted" = some (.builtin "sorted") := by decide +kernel
theorem sub_no1 (T : String) (h : T = "list" ∨ T = "tuple" ∨ T = "str") : isSubtype (.type T) (.type "set") = pure false := by
  rcases h with rfl | rfl | rfl <;> (rw [isSubtype_type]; kernel_rfl)
theorem sub_no2 (T : String) (h : T = "list" ∨ T = "tuple" ∨ T = "str") : isSubtype (.type T) (.type "frozenset") = pure false := by
  rcases h with rfl | rfl | rfl <;> (rw [isSubtype_type]; kernel_rfl)
theorem sub_no3 (T : String) (h : T = "list" ∨ T = "tuple" ∨ T = "str") : (Value.type T == Value.type "dict") = false := by
  rcases h with rfl | rfl | rfl <;> decide
theorem strs_val {ys : List Str} {us : List Value} (r : Vals (ys.map V.str) us) : us.length = ys.length ∧ ∀ (i : Nat) (v : Value), us[i]? = some v → ∃ k, ys[i]? = some k ∧ (∃ t, v = .str k t) := by
  induction ys generalizing us with
  | nil => cases r; exact ⟨rfl, fun i v e => by simp at e⟩
  | cons y ys ih =>
    cases r with
    | cons r0 r1 =>
      obtain ⟨t, rfl⟩ := r0
      obtain ⟨i1, i2⟩ := ih r1
      refine ⟨by simp [i1], fun i v e => ?_⟩
      cases i with
      | zero => simp at e; subst e; exact ⟨y, rfl, t, rfl⟩
      | succ i => exact i2 i v (by simpa using e)
theorem pe_sset {a : Expr} {ta : TE} {p p2 q pos : Pos} (hc : X.calm = true) (hg : Gl X "sorted") (hm : X.mg "sorted" = none) (hg2 : Gl X "set") (hm2 : X.mg "set" = none) (ha : PE X a ta)
    (na : starEach [a] X.env = (false, eval a X.env) :: starEach [] X.env) : PE X (.Call (.Name "sorted" p) [.Call (.Name "set" p2) [a] [] q] [] pos) (tSset X.K ta) := by
  refine ⟨fun pins s σ H Q I h => ?_⟩
  refine Call_ (ld_blt I hg hm boot_so ?_)
  refine callWith_builtin1 (args_cons ?_ rfl) rfl rfl
  refine Call_ (ld_blt I hg2 hm2 boot_st ?_)
  refine callWith_type1 (args_cons (thn (ha.run pins s σ H _ I h) fun v s1 ⟨x, H1, I1, r1, q1⟩ => args_nil ?_) na) na rfl
  have hd := I1.ok.hd hc
  rcases q1 with ⟨r, xs, rfl, hx, hl, q1⟩ | ⟨a, ns, rfl, hx, hl, q1⟩
  case inr =>
    cases r1
    have fin : ∀ (h' : Heap) (tk : Nat) (l : List Int), SG (PySem.intKind X.prog X.w) h' s1.heap.objs.size l → (∀ x, x ∈ l ↔ x ∈ ns) → (∀ b o, s1.heap.get? b = some o → h'.get? b = some o) →
        wpAny (model X.prog X.w) X.A (spliced (backTo pos (starEach [] X.env))) (fun vs s₂ => wpAny (model X.prog X.w) X.A (call (.builtin "sorted") (Value.ref s1.heap.objs.size :: vs)) (EP X pins σ Q) X.xe s₂) X.xe { s1 with heap := h', toks := tk } := by
      intro h' tk l hS hxl hk
      have ln : l.length ≤ ns.length := by
        obtain ⟨_, _, _, _, _, _, _, _, _, _, nd, _⟩ := hS
        exact nodup_le nd fun x hx => (hxl x).mp hx
      refine args_nil (sorted_set (s := { s1 with heap := h', toks := tk }) (setR_of hS) hd (Nat.lt_of_le_of_lt ln hl) fun s' p out c ms k g o hp hgp hi hs hm hlen => ?_)
      have hlt : s1.heap.objs.size < h'.objs.size := by obtain ⟨o, _, _, _, ho, _⟩ := hS; exact Heap.lt_size ho
      have hz : (ms.map V.int).length ≤ sizeLine := by rw [List.length_map, hlen, sizeLine_eq]; omega
      have hn : H1 p = none := I1.hok.fresh (Nat.le_trans (Nat.le_of_lt hlt) hp)
      have J : Inv X pins σ (upd H1 p (.lst (ms.map V.int))) { s1 with heap := s'.heap, gens := s'.gens, drawn := s'.drawn, toks := s'.toks } :=
        I1.call (ch := []) (Un.laid (fun b o e => k b o (hk b o e)) (Nat.le_trans (Nat.le_of_lt hlt) hp) hn) (I1.hok.laid (fun b o e => k b o (hk b o e)) (Nat.le_trans (Nat.le_of_lt hlt) hp) ⟨hz, out.toList, c, vals_of_ints hi, hgp⟩) (by rw [g]; exact I1.bare) (fun _ z => nomatch z)
      have e : s' = { s1 with heap := s'.heap, gens := s'.gens, drawn := s'.drawn, toks := s'.toks } := by
        cases s'
        cases s1
        cases o
        rfl
      rw [e]
      exact ⟨.ref p, _, J, rfl, q1 ms p hs (fun x => by rw [hm, decide_eq_true_eq, hxl]) hn⟩
    have sb : ns.length + 1 < scanBound := by unfold scanBound; omega
    rcases hx with hx | hx
    · obtain ⟨its, rv, pl, _⟩ := I1.list hx
      obtain ⟨e1, e2⟩ := ints_val rv
      exact call_set_src (T := "list") hd (fun s' ext => (pl.isList.at fun o e => ext _ o e).typeIs) (sub_no1 _ (by simp)) (sub_no2 _ (by simp)) (sub_no3 _ (by simp)) (ssrc_list pl.isList e1 sb fun i v e => let ⟨k, h1, t, h2⟩ := e2 i v e; ⟨k, h1, by rw [h2]; exact ⟨intKind_is _ _ _ _, rfl⟩⟩) fin
    · obtain ⟨its, rv, pl, _⟩ := I1.tuple hx
      obtain ⟨e1, e2⟩ := ints_val rv
      have pl' : s1.heap.IsTuple a its.toArray := pl
      exact call_set_src (T := "tuple") hd (fun s' ext => (pl'.at fun o e => ext _ o e).typeIs) (sub_no1 _ (by simp)) (sub_no2 _ (by simp)) (sub_no3 _ (by simp)) (ssrc_tuple pl' e1 sb fun i v e => let ⟨k, h1, t, h2⟩ := e2 i v e; ⟨k, h1, by rw [h2]; exact ⟨intKind_is _ _ _ _, rfl⟩⟩) fin
  have fin : ∀ (ks : List Str), (∀ k, k ∈ ks ↔ k ∈ xs) → ∀ (h' : Heap) (tk : Nat) (l : List Str), SG (PySem.strKind X.prog X.w) h' s1.heap.objs.size l → (∀ x, x ∈ l ↔ x ∈ ks) → (∀ b o, s1.heap.get? b = some o → h'.get? b = some o) →
      wpAny (model X.prog X.w) X.A (spliced (backTo pos (starEach [] X.env))) (fun vs s₂ => wpAny (model X.prog X.w) X.A (call (.builtin "sorted") (Value.ref s1.heap.objs.size :: vs)) (EP X pins σ Q) X.xe s₂) X.xe { s1 with heap := h', toks := tk } := by
    intro ks hks h' tk l hS hxl hk
    refine args_nil (sorted_sgS (s := { s1 with heap := h', toks := tk }) hS hd fun s' p out c ss k g o hp hgp hi hs pm nd hlen => ?_)
    have I2 : Inv X pins σ H1 { s1 with heap := h', toks := tk } := I1.kept hk
    have hlt : s1.heap.objs.size < h'.objs.size := by obtain ⟨o, _, _, _, ho, _⟩ := hS; exact Heap.lt_size ho
    have hz : (ss.map V.str).length ≤ sizeLine := by rw [List.length_map]; exact Nat.le_trans (Nat.le_of_lt hlen) (by decide)
    have hn : H1 p = none := I1.hok.fresh (Nat.le_trans (Nat.le_of_lt hlt) hp)
    have J : Inv X pins σ (upd H1 p (.lst (ss.map V.str))) { s1 with heap := s'.heap, gens := s'.gens, drawn := s'.drawn, toks := s'.toks } :=
      I1.call (ch := []) (Un.laid (fun b o e => k b o (hk b o e)) (Nat.le_trans (Nat.le_of_lt hlt) hp) hn) (I1.hok.laid (fun b o e => k b o (hk b o e)) (Nat.le_trans (Nat.le_of_lt hlt) hp) ⟨hz, out.toList, c, vals_of_strs hi, hgp⟩) (by rw [g]; exact I1.bare) (fun _ z => nomatch z)
    have e : s' = { s1 with heap := s'.heap, gens := s'.gens, drawn := s'.drawn, toks := s'.toks } := by
      cases s'
      cases s1
      cases o
      rfl
    rw [e]
    exact ⟨.ref p, _, J, rfl, q1 ss p hs nd (fun x => by rw [pm.mem_iff, hxl, hks]) hn⟩
  have sb : xs.length + 1 < scanBound := by unfold scanBound; omega
  cases r with
  | ls a =>
    cases r1
    obtain ⟨its, rv, pl, _⟩ := I1.list hx
    obtain ⟨e1, e2⟩ := strs_val rv
    exact call_set_src (T := "list") hd (fun s' ext => (pl.isList.at fun o e => ext _ o e).typeIs) (sub_no1 _ (by simp)) (sub_no2 _ (by simp)) (sub_no3 _ (by simp)) (ssrc_list pl.isList e1 sb fun i v e => let ⟨k, h1, t, h2⟩ := e2 i v e; ⟨k, h1, by rw [h2]; exact ⟨strKind_is _ _ _ _, rfl⟩⟩)
      fun h' tk l hS hxl hk => fin xs (fun _ => Iff.rfl) h' tk l hS hxl hk
  | tp a =>
    cases r1
    obtain ⟨its, rv, pl, _⟩ := I1.tuple hx
    obtain ⟨e1, e2⟩ := strs_val rv
    have pl' : s1.heap.IsTuple a its.toArray := pl
    exact call_set_src (T := "tuple") hd (fun s' ext => (pl'.at fun o e => ext _ o e).typeIs) (sub_no1 _ (by simp)) (sub_no2 _ (by simp)) (sub_no3 _ (by simp)) (ssrc_tuple pl' e1 sb fun i v e => let ⟨k, h1, t, h2⟩ := e2 i v e; ⟨k, h1, by rw [h2]; exact ⟨strKind_is _ _ _ _, rfl⟩⟩)
      fun h' tk l hS hxl hk => fin xs (fun _ => Iff.rfl) h' tk l hS hxl hk
  | tx z =>
    obtain ⟨t, rfl⟩ := r1
    have hxz : xs = z.cps.toList.map fun c => mkS [c] := by
      have e : xs.map V.str = (z.cps.toList.map fun c => mkS [c]).map V.str := by rw [List.map_map]; exact hx
      exact (List.map_inj_right (fun a b h => by cases h; rfl)).mp e
    have sb' : z.cps.size + 1 < scanBound := by rw [hxz] at sb; simpa using sb
    exact call_set_src (T := "str") hd (fun s' ext => typeIs_str s' z t) (sub_no1 _ (by simp)) (sub_no2 _ (by simp)) (sub_no3 _ (by simp)) (ssrc_str sb') fun h' tk l hS hxl hk => fin _ (fun x => by rw [hxz]) h' tk l hS hxl hk
end
section
variable {T : Tab} {k : Nat} {g : Gx} {X : Cx} {c : Sc} {ex : QX} {S0 : Sto} {H0 : Hp}
theorem rds_strs {S : Sto} {H : Hp} : ∀ {zs : List (List Nat)} {vs : List V}, RDs g S H (zs.map D.str) vs → vs = zs.map (fun z => V.str (mkS z)) ∧ ∀ z ∈ zs, ∀ c ∈ z, c < 0x110000 := by
  intro zs vs r
  obtain ⟨h1, h2⟩ := r.strs
  exact ⟨by rw [h1, List.map_map]; rfl, h2⟩
theorem strs_rds {S : Sto} {H : Hp} : ∀ {zs : List (List Nat)}, (∀ z ∈ zs, ∀ c ∈ z, c < 0x110000) → RDs g S H (zs.map D.str) (zs.map fun z => V.str (mkS z))
  | [], _ => RDs.nil
  | z :: zs, h => RDs.cons (rd_str (h z (by simp))) (strs_rds fun y hy => h y (by simp [hy]))
theorem rising_up : ∀ (p : Str) (l : List Str), risingS p l = true → (p :: l).Nodup → ((p :: l).map fun x => x.cps.toList).Pairwise (· < ·)
  | p, [], _, _ => by simp
  | p, x :: r, h, nd => by
    have hh : (!PySem.Spec.ltCps x.cps.toList p.cps.toList && risingS x r) = true := h
    rw [Bool.and_eq_true] at hh
    obtain ⟨h1, h2⟩ := hh
    rw [List.nodup_cons] at nd
    have ih := rising_up x r h2 nd.2
    rw [ltCps_eq] at h1
    have ne : p.cps.toList ≠ x.cps.toList := fun e => nd.1 (by
      have : p = x := by cases p; cases x; congr 1; exact Array.toList_inj.mp e
      rw [this]; simp)
    have lt : p.cps.toList < x.cps.toList := by
      apply Decidable.byContradiction
      intro z
      exact ne (tx_tri z (by simpa using h1))
    rw [List.map_cons, List.pairwise_cons]
    refine ⟨fun z hz => ?_, ih⟩
    rw [List.map_cons] at hz ih
    rcases List.mem_cons.mp hz with rfl | hz
    · exact lt
    · exact List.lt_trans lt ((List.pairwise_cons.mp ih).1 z hz)
theorem sorted_up {l : List Str} (h : sortedS l = true) (nd : l.Nodup) : (l.map fun x => x.cps.toList).Pairwise (· < ·) := by
  cases l with
  | nil => exact List.Pairwise.nil
  | cons p l => exact rising_up p l h nd
theorem s_sset (gd : Good T k g X c ex S0 H0) {fz : Bool} {w : Sl → Sto → QV → Prop} {a : Expr} {p p2 q pos : Pos} (hg : glB (c.kd ("sorted" : Str)) = true) (hg2 : glB (c.kd ("set" : Str)) = true) (hn : noStar a = true) (ha : PE X a (RE g S0 H0 w)) :
    PE X (.Call (.Name "sorted" p) [.Call (.Name "set" p2) [a] [] q] [] pos) (RE g S0 H0 fun ρ S Q => w ρ S fun x S1 => ssetS fz x S1 Q) := by
  refine (pe_sset gd.calm (gd.gl hg) (by rw [gd.gm]; exact gd.ge.blt _ (by decide +kernel)) (gd.gl hg2) (by rw [gd.gm]; exact gd.ge.blt _ (by decide +kernel)) ha (star_cons hn)).imp fun σ H Q h => ?_
  obtain ⟨ρ, S, Qd, r, h, kk⟩ := h
  refine ⟨ρ, S, _, r, h, fun x d S1 H1 rd1 rs1 st1 q1 => ?_⟩
  rcases q1 with ⟨zs, hz, hl, q1⟩ | ⟨is, hz, hl, q1⟩
  case inr =>
    obtain ⟨p, vs, rfl, sq, rr⟩ := rd1.seq rs1 hz
    have ev : vs = is.map V.int := by
      clear hz sq q1 hl
      induction is generalizing vs with
      | nil => unfold RDs at rr; exact rr
      | cons i is ih =>
        rw [List.map_cons] at rr
        unfold RDs at rr
        obtain ⟨v, r, rfl, h1, h2⟩ := rr
        rw [h1.ofInt, ih r h2]
        rfl
    subst ev
    refine .inr ⟨p, is, rfl, by rw [gd.gK]; exact sq, hl, fun ms q hs hm hq => ?_⟩
    have e : ms = sortI is := upI_eq hs (sortI_up is) fun x => by rw [hm, mem_sortI]
    rw [e]
    refine (kk.from st1).newL rs1 ?_ q1 q hq
    generalize sortI is = js
    induction js with
    | nil => exact RDs.nil
    | cons j js ih => exact RDs.cons rd_int ih
  refine .inl ?_
  obtain ⟨sr, rfl, hk⟩ := src_of rs1 rd1 hz
  obtain ⟨vs, hv, rds⟩ := src_get rs1 rd1 hk hz
  obtain ⟨e, hc⟩ := rds_strs rds
  subst e
  refine ⟨sr, zs.map mkS, rfl, ?_, by rw [List.length_map]; exact hl, fun ss p hs nd hm hp => ?_⟩
  · rw [gd.gK, List.map_map]; exact hv
  · have e : ss.map (fun x => x.cps.toList) = sortU zs := by
      refine up_eq (sorted_up hs nd) (sortU_up zs) fun y => ?_
      rw [mem_sortU, List.mem_map]
      constructor
      · rintro ⟨x, hx, rfl⟩
        obtain ⟨z, hz', rfl⟩ := List.mem_map.mp ((hm x).mp hx)
        rw [mkS_list]; exact hz'
      · intro hy
        exact ⟨mkS y, (hm _).mpr (List.mem_map.mpr ⟨y, hy, rfl⟩), mkS_list y⟩
    have e2 : ss.map V.str = (sortU zs).map fun z => V.str (mkS z) := by
      rw [← e, List.map_map]
      exact List.map_congr_left fun x _ => by show V.str x = V.str (mkS x.cps.toList); rw [mkS_eta]
    rw [e2]
    exact (kk.from st1).newL rs1 (strs_rds fun z hz' => hc z (mem_sortU.mp hz')) q1 p hp
end
end G
/-! GX: rows again and again, dicts' displays, calls by names. -/
namespace G
open PySem L2
section
variable {T : Tab} {k : Nat} {g : Gx} {X : Cx} {c : Sc} {ex : QX} {S0 : Sto} {H0 : Hp}
theorem rds_flat {S : Sto} {H : Hp} {ds : List D} {vs : List V} (r : RDs g S H ds vs) : ∀ n : Nat, RDs g S H (List.replicate n ds).flatten (List.replicate n vs).flatten
  | 0 => RDs.nil
  | n + 1 => by
    rw [List.replicate_succ, List.replicate_succ, List.flatten_cons, List.flatten_cons]
    exact r.append (rds_flat r n)
theorem s_repl (gd : Good T k g X c ex S0 H0) {fz : Bool} {ws : Sl → Sto → (List D → Sto → Prop) → Prop} {w : Sl → Sto → QV → Prop} {es : List Expr} {b : Expr} {p pos : Pos} (ha : PA X es (RA g S0 H0 ws)) (hb : PE X b (RE g S0 H0 w)) :
    PE X (.BinOp (.List es p) .Mult b pos) (RE g S0 H0 fun ρ S Q => ws ρ S fun ds S1 => ds.length ≤ lim ∧ w ρ S1 fun y S2 => replS fz ds y S2 Q) := by
  refine (pe_op op_rep (pe_lst ha) hb).imp fun σ H Q h => ?_
  obtain ⟨ρ, S, Qd, r, h, kk⟩ := h
  refine ⟨ρ, S, _, r, h, fun vs ds S1 H1 rds rs1 st1 q1 => ⟨by rw [← rds.length]; exact lim_size q1.1, fun p hp => ?_⟩⟩
  obtain ⟨rs1', st1'⟩ := rs1.frozen (o := .lst vs) hp
  refine ⟨ρ, S1, _, r.step rs1' (st1.trans st1'), q1.2, fun y d2 S2 H2 rd2 rs2 st2 q2 => ?_⟩
  obtain ⟨n, rfl, h1, h2, h3, q⟩ := q2
  obtain ⟨hp2, _⟩ := st2 p _ upd_same (rs1.free hp)
  have hl : ds.length = vs.length := rds.length
  exact ⟨p, n, vs, rfl, rd2.ofInt, hp2, h1, h2, by rw [← hl]; exact lim_size h3, fun p2 hp2' => (kk.from ((st1.trans st1').trans st2)).newL rs2 (rds_flat ((rds.mono st1').mono st2) n.toNat) q p2 hp2'⟩
/-! ### calls by names -/
def kwIs : List Str → List Keyword → Prop
  | [], [] => True
  | k :: ks, kw :: kws => kw.arg = some k ∧ kwIs ks kws
  | _, _ => False
theorem kw_names {pos : Pos} {env : Env} : ∀ {ks : List Str} {kws : List Keyword}, kwIs ks kws → (backToKw pos (keywordEach kws env)).filterMap (·.1) = ks ∧ (backToKw pos (keywordEach kws env)).all (·.1.isSome) = true ∧ (backToKw pos (keywordEach kws env)).any (·.1.isNone) = false
  | [], [], _ => ⟨rfl, rfl, rfl⟩
  | k :: ks, ⟨nm, e, p⟩ :: kws, h => by
    obtain ⟨h1, h2⟩ := h
    obtain ⟨i1, i2, i3⟩ := kw_names (pos := pos) (env := env) h2
    have h1' : nm = some k := h1
    subst h1'
    refine ⟨?_, ?_, ?_⟩
    · show k :: (backToKw pos (keywordEach kws env)).filterMap (·.1) = k :: ks
      rw [i1]
    · show (true && (backToKw pos (keywordEach kws env)).all (·.1.isSome)) = true
      rw [i2]; rfl
    · show (false || (backToKw pos (keywordEach kws env)).any (·.1.isNone)) = false
      rw [i3]; rfl
theorem s_kw {w : Sl → Sto → QV → Prop} {ws : Sl → Sto → (List D → Sto → Prop) → Prop} {e : Expr} {nm : Option Str} {kp : Pos} {kws : List Keyword} (he : PE X e (RE g S0 H0 w)) (hes : PK X kws (RA g S0 H0 ws)) :
    PK X (⟨nm, e, kp⟩ :: kws) (RA g S0 H0 fun ρ S Q => w ρ S fun d S1 => ws ρ S1 fun ds S2 => Q (d :: ds) S2) := by
  refine ⟨fun p pins s σ H Q I h => (pk_cons he hes).run p pins s σ H Q I ?_⟩
  obtain ⟨ρ, S, Qd, r, h, kk⟩ := h
  exact ⟨ρ, S, _, r, h, fun x d S1 H1 rd1 rs1 st1 q1 => ⟨ρ, S1, _, r.step rs1 st1, q1, fun vs ds S2 H2 rd2 rs2 st2 q2 => kk _ _ S2 H2 (RDs.cons (rd1.mono st2) rd2) rs2 (st1.trans st2) q2⟩⟩
theorem s_kw0 : PK X [] (RA g S0 H0 fun _ S Q => Q [] S) := ⟨fun p pins s σ H Q I ⟨ρ, S, Qd, r, h, kk⟩ => pk_nil.run p pins s σ H Q I (kk [] [] S H RDs.nil r.rs (Step.refl S H) h)⟩
theorem s_callk (gd : Good T k g X c ex S0 H0) {f : Str} {es : List Expr} {ks : List Str} {kws : List Keyword} {pl : List (Nat ⊕ D)} {n : Nat} {ws wk : Sl → Sto → (List D → Sto → Prop) → Prop} {p pos : Pos} (hg : glB (c.kd f) = true) (hd : (f == dbg) = false)
    (ha : PA X es (RA g S0 H0 ws)) (hn : es.all noStar = true) (h0 : es = [] → n = 0 ∧ ws = fun _ S Q => Q [] S) (hk : PK X kws (RA g S0 H0 wk)) (hkw : kwIs ks kws) :
    PE X (.Call (.Name f p) es kws pos) (RE g S0 H0 fun ρ S Q => ∃ φ, T.fn f = some φ ∧ T.kw f n ks = some pl ∧ ws ρ S fun ds S1 => wk ρ S1 fun us S2 => ds.length = n ∧ us.length = ks.length ∧ φ (pick pl (ds ++ us)) S2 Q ex) := by
  obtain ⟨K, mg, B⟩ := g
  have e1 : X.K = K := gd.gK
  have e2 : X.mg = mg := gd.gm
  subst e1 e2
  refine ⟨fun pins s σ H Q I h => ?_⟩
  obtain ⟨ρ, S, Qd, r, ⟨φ, hφ, hpl, h⟩, kk⟩ := h
  obtain ⟨a, fd, ps, hm, kp, F, hb, hkb⟩ := gd.ge.fns f φ hφ
  obtain ⟨gU, gV, kb, rel⟩ := hkb n ks pl hpl
  have rm := gd.room.mono (Nat.le_succ k)
  obtain ⟨n1, n2, n3⟩ := kw_names (pos := pos) (env := X.env) hkw
  have go : ∀ (as ws : List Value) (vs zs : List V) (s2 : Shared) (H2 : Hp), L2.Inv X pins σ H2 s2 → Vals vs as → Vals zs ws → vs.length = n → zs.length = ks.length → spOf X.K X.mg φ (gV vs zs) H2 Q (EX ⟨X.K, X.mg, B⟩ ex S0 H0) →
      wpAny (model X.prog X.w) X.A (call (.ref a) as (ks.zip ws)) (EP X pins σ Q) X.xe s2 := fun as ws vs zs s2 H2 I2 r1 r2 l1 l2 q2 =>
    run_g (args := ⟨as, ks.zip ws⟩) F gd.gds rm (kb.to s2 as ws I2.kIn (r1.length.symm.trans l1) (r2.length.symm.trans l2)) gd.pass I2 (kb.rel r1 r2) q2
  refine wpAny_Call_Name_kw (ld_glob I (gd.gl hg) hm ?_ hd)
  cases es with
  | nil =>
    obtain ⟨rfl, hw⟩ := h0 rfl
    rw [hw] at h
    have q0 : RA ⟨X.K, X.mg, B⟩ S0 H0 wk σ H fun zs H1 => ([] : List V).length = 0 ∧ zs.length = ks.length ∧ spOf X.K X.mg φ (gV [] zs) H1 Q (EX ⟨X.K, X.mg, B⟩ ex S0 H0) :=
      ⟨ρ, S, _, r, h, fun zs us S1 H1 rds rs1 st1 ⟨q1, q2, q3⟩ => ⟨rfl, by rw [← rds.length]; exact q2, B, _, S1, Qd, ex, rel B S1 H1 [] us [] zs q1 q2 RDs.nil rds, rs1, q3, kk.from st1, contX_of r st1⟩⟩
    refine PySem.W.callWith_KW0 (h₀ := X.base) I.ok.mod.kin kp n2 (thn (hk.run pos pins s σ H _ I q0) fun ws s2 ⟨zs, H2, I2, rz, l1, l2, q2⟩ => ⟨I2.kIn, ?_⟩) n3
    rw [n1]
    exact go [] ws [] zs s2 H2 I2 .nil rz l1 l2 q2
  | cons e es =>
    rw [List.all_cons, Bool.and_eq_true] at hn
    have hpl : ((backTo pos (starEach (e :: es) X.env)).any (·.1) || (backToKw pos (keywordEach kws X.env)).any (·.1.isNone)) = false := by
      rw [n3, star_any (es := e :: es) (by rw [List.all_cons, hn.1, hn.2]; rfl)]; rfl
    have q0 : RA ⟨X.K, X.mg, B⟩ S0 H0 ws σ H fun vs H1 => RA ⟨X.K, X.mg, B⟩ S0 H0 wk σ H1 fun zs H2 => vs.length = n ∧ zs.length = ks.length ∧ spOf X.K X.mg φ (gV vs zs) H2 Q (EX ⟨X.K, X.mg, B⟩ ex S0 H0) :=
      ⟨ρ, S, _, r, h, fun vs ds S1 H1 rds rs1 st1 q1 => ⟨ρ, S1, _, r.step rs1 st1, q1, fun zs us S2 H2 rds2 rs2 st2 ⟨q1, q2, q3⟩ => ⟨by rw [← rds.length]; exact q1, by rw [← rds2.length]; exact q2, B, _, S2, Qd, ex,
        rel B S2 H2 ds us vs zs q1 q2 (rds.mono st2) rds2, rs2, q3, kk.from (st1.trans st2), contX_of r (st1.trans st2)⟩⟩⟩
    refine PySem.W.callWith_KW (h₀ := X.base) I.ok.mod.kin kp n2 (thn (ha.run pos pins s σ H _ I q0) fun as s1 ⟨vs, H1, I1, rv, q⟩ => thn (hk.run pos pins s1 σ H1 _ I1 q) fun ws s2 ⟨zs, H2, I2, rz, l1, l2, q2⟩ => ⟨I2.kIn, ?_⟩) hpl (star_cons hn.1)
    rw [n1]
    exact go as ws vs zs s2 H2 I2 rv rz l1 l2 q2
/-! ### dicts' displays -/
def RPs (g : Gx) (S0 : Sto) (H0 : Hp) (w : Sl → Sto → (List (D × D) → Sto → Prop) → Prop) : L2.St → Hp → (List (V × V) → Hp → Prop) → Prop := fun σ H Q => ∃ ρ S Qd, Rl g S0 H0 ρ S σ H ∧ w ρ S Qd ∧
  ∀ ps qs S' H', RDs g S' H' (qs.map (·.1)) (ps.map (·.1)) → RDs g S' H' (qs.map (·.2)) (ps.map (·.2)) → RS g S' H' → Step S H S' H' → Qd qs S' → Q ps H'
def PPr (X : Cx) (pos : Pos) (keys : List (Option Expr)) (values : List Expr) (t : L2.St → Hp → (List (V × V) → Hp → Prop) → Prop) : Prop := ∃ trs, PPs X pos keys values trs ∧ ∀ σ H Q, t σ H Q → tPairs trs σ H Q
theorem s_pnil {pos : Pos} : PPr X pos [] [] (RPs g S0 H0 fun _ S Q => Q [] S) := ⟨[], pps_nil, fun σ H Q ⟨ρ, S, Qd, r, h, kk⟩ => kk [] [] S H RDs.nil RDs.nil r.rs (Step.refl S H) h⟩
theorem s_pcons {pos : Pos} {k v : Expr} {ks : List (Option Expr)} {vs : List Expr} {wk wv : Sl → Sto → QV → Prop} {w : Sl → Sto → (List (D × D) → Sto → Prop) → Prop} (hk : PE X k (RE g S0 H0 wk)) (hv : PE X v (RE g S0 H0 wv)) (hr : PPr X pos ks vs (RPs g S0 H0 w)) :
    PPr X pos (some k :: ks) (v :: vs) (RPs g S0 H0 fun ρ S Q => wk ρ S fun x S1 => wv ρ S1 fun y S2 => w ρ S2 fun ps S3 => Q ((x, y) :: ps) S3) := by
  obtain ⟨trs, h1, h2⟩ := hr
  refine ⟨(RE g S0 H0 wk, RE g S0 H0 wv) :: trs, pps_cons hk hv h1, fun σ H Q ⟨ρ, S, Qd, r, h, kk⟩ => ?_⟩
  refine ⟨ρ, S, _, r, h, fun x d S1 H1 rd1 rs1 st1 q1 => ⟨ρ, S1, _, r.step rs1 st1, q1, fun y d2 S2 H2 rd2 rs2 st2 q2 => h2 _ _ _ ⟨ρ, S2, _, (r.step rs1 st1).step rs2 st2, q2, fun ps qs S3 H3 k1 k2 rs3 st3 q3 => ?_⟩⟩⟩
  exact kk ((x, y) :: ps) ((d, d2) :: qs) S3 H3 (RDs.cons ((rd1.mono st2).mono st3) k1) (RDs.cons (rd2.mono st3) k2) rs3 ((st1.trans st2).trans st3) q3
theorem putK_new {kvs : List (Key × V)} {k : Key} {v : V} (h : ∀ p ∈ kvs, p.1 ≠ k) : putK kvs k v = kvs ++ [(k, v)] := by
  unfold putK
  rw [if_neg]
  intro hc
  obtain ⟨p, hp, e⟩ := List.any_eq_true.mp hc
  exact h p hp (of_decide_eq_true e)
theorem mergeK_new : ∀ (more kvs : List (Key × V)), ((kvs ++ more).map (·.1)).Nodup → mergeK kvs more = kvs ++ more
  | [], kvs, _ => by rw [List.append_nil]; rfl
  | p :: r, kvs, h => by
    have e : putK kvs p.1 p.2 = kvs ++ [p] := putK_new fun q hq e => by
      rw [List.map_append, List.nodup_append] at h
      exact h.2.2 q.1 (List.mem_map.mpr ⟨q, hq, rfl⟩) p.1 (by simp) e
    show mergeK (putK kvs p.1 p.2) r = _
    rw [e, mergeK_new r (kvs ++ [p]) (by simpa using h)]
    simp
theorem keys_rd {S : Sto} {H : Hp} : ∀ {qs : List (D × D)} {ps : List (V × V)}, RDs g S H (qs.map (·.1)) (ps.map (·.1)) → RDs g S H (qs.map (·.2)) (ps.map (·.2)) → (qs.map (·.1)).all (fun d => (toKey d).isSome) = true →
    ∃ kvs : List (Key × V), ps = kvs.map (fun kv => (kV kv.1, kv.2)) ∧ RKs g S H qs kvs ∧ (qs.map fun p => toKey p.1) = kvs.map fun p => some p.1
  | [], [], _, _, _ => ⟨[], rfl, rfl, rfl⟩
  | [], p :: ps, h, _, _ => by have := h.length; simp at this
  | q :: qs, [], h, _, _ => by have := h.length; simp at this
  | (d, e) :: qs, (x, y) :: ps, h1, h2, h3 => by
    obtain ⟨_, _, ea, a1, a2⟩ := h1
    obtain ⟨_, _, eb, b1, b2⟩ := h2
    cases ea
    cases eb
    rw [List.map_cons, List.all_cons, Bool.and_eq_true] at h3
    obtain ⟨kvs, e1, e2, e3⟩ := keys_rd a2 b2 h3.2
    obtain ⟨q, hq⟩ := Option.isSome_iff_exists.mp h3.1
    refine ⟨(q, y) :: kvs, ?_, ?_, ?_⟩
    · have ex : x = kV q := key_rd (d := d) (v := x) a1 hq
      rw [List.map_cons, ← e1, ex]
    · exact ⟨q, y, kvs, rfl, hq, b1, e2⟩
    · rw [List.map_cons, List.map_cons, e3, hq]
theorem new_dct {S : Sto} {H : Hp} (rs : RS g S H) {a : Addr} (ha : H a = none) : RS g (S.set a (.dct [])) (upd H a (.dK [])) ∧ Step S H (S.set a (.dct [])) (upd H a (.dK [])) := by
  have st : Step S H (S.set a (.dct [])) (upd H a (.dK [])) := Step.write (.inr ha)
  exact ⟨rs.write (.inr ha) st ⟨[], upd_same, rfl⟩ (fun b e => by rw [ha] at e; cases e), st⟩
theorem put_dct {S : Sto} {H : Hp} (rs : RS g S H) {a : Addr} {kvs kvs2 : List (D × D)} {gs gs2 : List (Key × V)} (hs : S a = some (.dct kvs)) (h : H a = some (.dK gs)) (r : RKs g S H kvs2 gs2) :
    RS g (S.set a (.dct kvs2)) (upd H a (.dK gs2)) ∧ Step S H (S.set a (.dct kvs2)) (upd H a (.dK gs2)) := by
  have st : Step S H (S.set a (.dct kvs2)) (upd H a (.dK gs2)) := Step.write (.inl (by rw [hs]; exact fun z => nomatch z))
  exact ⟨rs.write (.inl (by rw [hs]; exact fun z => nomatch z)) st ⟨gs2, upd_same, r.mono st⟩ (fun b e => by rw [h] at e; cases e), st⟩
/-- a dict's display ends: an object of its own, or never changed any more -/
theorem fin_dct {S : Sto} {H : Hp} {Qd : QV} {Q : VK} {fz : Bool} {a : Addr} {kvs0 kvs : List (D × D)} {gs0 gs : List (Key × V)} (kk : Cont g S H Qd Q) (rs : RS g S H) (hs : S a = some (.dct kvs0)) (h : H a = some (.dK gs0)) (r : RKs g S H kvs gs) (q : newDc fz a kvs S Qd) : Q (.ref a) (upd H a (.dK gs)) := by
  obtain ⟨rs3, st3⟩ := put_dct rs hs h r
  unfold newDc at q
  split at q
  · have sb : Sub (S.del a) (S.set a (.dct kvs)) := fun b o e => by
      unfold Sto.del at e
      split at e
      · cases e
      · rename_i nb
        rw [Sto.set_ne nb]; exact e
    have st4 := Step.sub (H := upd H a (.dK gs)) sb
    obtain ⟨u1, u2, u3⟩ := RKs.unzip ((r.mono st3).mono st4)
    refine kk _ _ _ _ ?_ (rs3.sub sb) (st3.trans st4) q
    unfold RD
    exact ⟨a, gs.map (·.1), gs.map (·.2), rfl, ⟨by unfold Sto.del; rw [if_pos rfl], (rs.1 a _ hs).1, by rw [← u1]; exact upd_same⟩, u2, by rw [List.length_map, List.length_map], u3⟩
  · exact kk _ _ _ _ rd_obj rs3 st3 q
theorem s_dct (gd : Good T k g X c ex S0 H0) {fz : Bool} {ks : List (Option Expr)} {vs : List Expr} {w : Sl → Sto → (List (D × D) → Sto → Prop) → Prop} {pos : Pos} (h : PPr X pos ks vs (RPs g S0 H0 w)) (hall : ks.all (·.isSome) = true) (hl : ks.length = vs.length) (h15 : ks.length ≤ 15)
    (h0 : ks = [] → w = fun _ S Q => Q [] S) :
    PE X (.Dict ks vs pos) (RE g S0 H0 fun ρ S Q => ∀ a, S a = none → w ρ (S.set a (.dct [])) fun kvs S1 => S1 a = some (.dct []) ∧ kvs.length ≤ 15 ∧ (kvs.map (·.1)).all (fun d => (toKey d).isSome) = true ∧ (kvs.map fun p => toKey p.1).Nodup ∧ newDc fz a kvs S1 Q) := by
  obtain ⟨trs, h1, h2⟩ := h
  cases ks with
  | nil =>
    cases vs with
    | cons _ _ => simp at hl
    | nil =>
      refine pe_dnewK.imp fun σ H Q ⟨ρ, S, Qd, r, h, kk⟩ p hp => ?_
      have q := h p (r.rs.free hp)
      rw [h0 rfl] at q
      obtain ⟨rs1, st1⟩ := new_dct r.rs hp
      have z := fin_dct (gs := []) (kk.from st1) rs1 Sto.set_same (gs0 := []) upd_same (show RKs g _ _ [] [] from rfl) q.2.2.2.2
      rw [upd_upd] at z
      exact z
  | cons kx kr =>
    refine (pe_disp h1 hall hl (by simp) h15).imp fun σ H Q ⟨ρ, S, Qd, r, h, kk⟩ p hp => ?_
    obtain ⟨rs1, st1⟩ := new_dct r.rs hp
    refine h2 _ _ _ ⟨ρ, S.set p (.dct []), _, r.step rs1 st1, h p (r.rs.free hp), fun ps qs S2 H2 k1 k2 rs2 st2 q2 => ?_⟩
    obtain ⟨q3, q4, q5, q6, q7⟩ := q2
    obtain ⟨gs, hgs, rgs⟩ := (rs2.1 _ _ q3).2
    have hgs' : gs = [] := rgs
    subst hgs'
    obtain ⟨kvs, e1, e2, e3⟩ := keys_rd k1 k2 q5
    have nd : (([] ++ kvs : List (Key × V)).map (·.1)).Nodup := by
      rw [e3] at q6
      rw [List.nil_append]
      have : (kvs.map (fun p : Key × V => p.1)).map some = kvs.map fun p => some p.1 := by rw [List.map_map]; rfl
      rw [← this] at q6
      exact (List.pairwise_map.mp q6).imp fun h e => h (by rw [e])
    refine ⟨hgs, kvs, e1, ?_, ?_⟩
    · have := congrArg List.length e3
      rw [List.length_map, List.length_map] at this
      omega
    · rw [mergeK_new kvs [] nd, List.nil_append]
      exact fin_dct (kk.from (st1.trans st2)) rs2 q3 hgs e2 q7
end
end G
/-! GY: tuples of ranges. -/
namespace G
open PySem PySem.Spec PyProof.Rows L2
section
variable {T : Tab} {k : Nat} {g : Gx} {X : Cx} {c : Sc} {ex : QX} {S0 : Sto} {H0 : Hp}
theorem vals_rgC {a c : Int} {n : Nat} {acc : Array Value} (h : ItemsOf (fun i v => ∃ t, v = .int (a + i * c) t) acc n) : Vals ((List.range n).map fun i => V.int (a + (i : Nat) * c)) acc.toList := by
  have e : acc.toList.length = n := by rw [Array.length_toList]; exact h.1
  rw [← e]
  refine vals_of_get acc.toList _ fun j u hj => ?_
  obtain ⟨t, rfl⟩ := h.2 j u (by rw [← hj, Array.getElem?_toList])
  exact ⟨t, rfl⟩
theorem rds_rgC {S : Sto} {H : Hp} {a c : Int} (n : Nat) : RDs g S H ((List.range n).map fun (i : Nat) => D.int (a + i * c)) ((List.range n).map fun i => V.int (a + (i : Nat) * c)) := by
  generalize List.range n = l
  induction l with
  | nil => exact RDs.nil
  | cons x r ih => exact RDs.cons rd_int ih
theorem s_rngT (gd : Good T k g X c ex S0 H0) {ws : Sl → Sto → (List D → Sto → Prop) → Prop} {rs : List Expr} {p p2 pos pos2 : Pos} (hg1 : glB (c.kd ("tuple" : Str)) = true) (hg2 : glB (c.kd ("range" : Str)) = true) (ha : PA X rs (RA g S0 H0 ws)) (hn : rs.all noStar = true) (h0 : rs ≠ []) :
    PE X (.Call (.Name "tuple" p) [.Call (.Name "range" p2) rs [] pos2] [] pos) (RE g S0 H0 fun ρ S Q => ws ρ S fun ds S1 => rngS ds S1 fun xs _ S2 => xs.length ≤ lim ∧ Q (.tup xs) S2) := by
  have hm1 : X.mg "tuple" = none := by rw [gd.gm]; exact gd.ge.blt _ (by decide +kernel)
  have hm2 : X.mg "range" = none := by rw [gd.gm]; exact gd.ge.blt _ (by decide +kernel)
  refine ⟨fun pins s σ H Q I h => ?_⟩
  obtain ⟨ρ, S, Qd, r, h, kk⟩ := h
  have na : starEach [.Call (.Name "range" p2) rs [] pos2] X.env = (false, eval (.Call (.Name "range" p2) rs [] pos2) X.env) :: starEach [] X.env := star_cons rfl
  have inner : wpAny (model X.prog X.w) X.A (eval (.Call (.Name "range" p2) rs [] pos2) X.env) (fun x s' => ∃ rr a b cc t u v n H1 S1, x = .ref rr ∧ IsRange s'.heap rr a b cc t u v ∧ L2.Inv X pins σ H1 s' ∧ Builtin.Range.small a b cc = true ∧ Builtin.Range.rangeSize a b cc = ((n : Nat) : Int) ∧
      RS g S1 H1 ∧ Step S H S1 H1 ∧ n ≤ lim ∧ Qd (.tup ((List.range n).map fun (i : Nat) => D.int (a + i * cc))) S1) X.xe s := by
    cases rs with
    | nil => exact absurd rfl h0
    | cons e es =>
      rw [List.all_cons, Bool.and_eq_true] at hn
      have q0 : RA g S0 H0 ws σ H fun vs H1 => ∃ ds S1, RDs g S1 H1 ds vs ∧ RS g S1 H1 ∧ Step S H S1 H1 ∧ rngS ds S1 fun xs _ S2 => xs.length ≤ lim ∧ Qd (.tup xs) S2 :=
        ⟨ρ, S, _, r, h, fun vs ds S1 H1 rds rs1 st1 q1 => ⟨ds, S1, rds, rs1, st1, q1⟩⟩
      refine Call_ (ld_blt I (gd.gl hg2) hm2 boot_range (PyProof.Rows.callWith_type1 (thn (ha.run pos2 pins s σ H _ I q0) fun us s1 ⟨vs, H1, I1, rv, ds, S1, rds, rs1, st1, q⟩ => ?_) (star_cons hn.1) (star_any hn.2)))
      unfold rngS at q
      split at q
      · rename_i n
        obtain ⟨v, rfl, rd⟩ := rds.one
        rw [rd.ofInt] at rv
        obtain ⟨u, rfl, t, rfl⟩ := vals1 rv
        obtain ⟨⟨q1, q2⟩, q3, q4⟩ := q
        refine call_range_1 ⟨_, 0, n, 1, _, _, _, n.toNat, H1, S1, rfl, IsRange.new _ _ _ _ _ _ _, I1.kept fun b u e => Heap.get?_push_of_some _ e, small_one (by decide) (by decide) q1 q2, ?_, rs1, st1, by simpa using q3, ?_⟩
        · rw [rangeSize_nat, Int.sub_zero]
        · simpa using q4
      · rename_i a b
        obtain ⟨v, v', rfl, rd, rd'⟩ := rds.two
        rw [rd.ofInt, rd'.ofInt] at rv
        obtain ⟨u, u', rfl, ⟨t, rfl⟩, ⟨t', rfl⟩⟩ := vals2 rv
        obtain ⟨⟨q1, q2, q1', q2'⟩, q3, q4⟩ := q
        refine call_range_2 ⟨_, a, b, 1, _, _, _, (b - a).toNat, H1, S1, rfl, IsRange.new _ _ _ _ _ _ _, I1.kept fun b u e => Heap.get?_push_of_some _ e, small_one q1 q2 q1' q2', rangeSize_nat a b, rs1, st1, by simpa using q3, ?_⟩
        simpa using q4
      · rename_i a b cc
        unfold RDs at rds
        obtain ⟨v, r1, rfl, rd, rds⟩ := rds
        obtain ⟨v', v'', rfl, rd', rd''⟩ := rds.two
        rw [rd.ofInt, rd'.ofInt, rd''.ofInt] at rv
        obtain ⟨n, ⟨c0, c1, c2, c3⟩, q3, q4⟩ := q
        cases rv with
        | cons r r2 =>
          obtain ⟨u', u'', rfl, ⟨t', rfl⟩, ⟨t'', rfl⟩⟩ := vals2 r2
          obtain ⟨t, rfl⟩ := r
          exact call_range_3 c0 ⟨_, a, b, cc, _, _, _, n, H1, S1, rfl, IsRange.new _ _ _ _ _ _ _, I1.kept fun b u e => Heap.get?_push_of_some _ e, c2, c3, rs1, st1, by simpa using q3, q4⟩ (.inl (PyProof.noPylong_small c1))
      · exact q.elim
  refine Call_ (ld_blt I (gd.gl hg1) hm1 boot_tuple (PyProof.Rows.callWith_type1 (args_cons (thn inner fun x s1 ⟨rr, a, b, cc, t, u, v, n, H1, S1, ex1, hr, I1, b1, b2, rs1, st1, hl, q⟩ => args_nil ?_) na) na))
  subst ex1
  refine call_tuple_range (n := n) (I1.ok.hd gd.calm) hr b1 b2 (Nat.le_trans hl (by decide)) fun h' tk acc hk hi => ?_
  have I2 : L2.Inv X pins σ H1 { s1 with heap := h', toks := tk } := I1.kept hk
  have fr := I2.hok.fresh (Nat.le_refl h'.objs.size)
  refine ⟨.ref h'.objs.size, upd H1 h'.objs.size (.tup _), I2.laid (t' := tk) (o := .tup _) (fun c o e => Heap.get?_push_of_some _ e) (Nat.le_refl _) ⟨?_, acc.toList, vals_rgC hi, ?_⟩, rfl, (kk.from st1).newT rs1 (rds_rgC n) q _ fr⟩
  · rw [List.length_map, List.length_range]; exact lim_size hl
  · rw [Array.toArray_toList]; exact IsTup.new _ _
end
end G
/-! GZ: rows turned about; sorted sets of ints. -/
namespace G
open PySem PySem.Spec PyProof.Rows L2
open PpSet (eval_SetComp)
section
variable {T : Tab} {k : Nat} {g : Gx} {X : Cx} {c : Sc} {ex : QX} {S0 : Sto} {H0 : Hp}
theorem s_rev (gd : Good T k g X c ex S0 H0) {fz : Bool} {w : Sl → Sto → QV → Prop} {a : Expr} {n : Nat} {p1 p2 p3 pos : Pos} (ha : PE X a (RE g S0 H0 w)) :
    PE X (.Subscript a (.Slice none none (some (.UnaryOp .USub (.Constant (.int 1) n p1) p2)) p3) pos) (RE g S0 H0 fun ρ S Q => w ρ S fun x S1 => revS fz x S1 Q) := by
  refine (pe_turn ha).imp fun σ H Q h => ?_
  obtain ⟨ρ, S, Qd, r, h, kk⟩ := h
  refine ⟨ρ, S, _, r, h, fun x d S1 H1 rd1 rs1 st1 q1 => ?_⟩
  rw [gd.gK]
  unfold revS at q1
  split at q1
  · obtain ⟨p, vs, rfl, sq, rr⟩ := rd1.tup
    exact ⟨p, vs, rfl, .inr ⟨sq, fun q hq => (kk.from st1).newT rs1 rr.rev q1 q hq⟩⟩
  · obtain ⟨xs, e, q1⟩ := q1
    obtain ⟨p, vs, rfl, sq, rr⟩ := rd1.seqL rs1 e (by assumption)
    exact ⟨p, vs, rfl, .inl ⟨sq, fun q hq => (kk.from st1).newL rs1 rr.rev q1 q hq⟩⟩
theorem rds_ints {S : Sto} {H : Hp} : ∀ (is : List Int), RDs g S H (is.map .int) (is.map V.int)
  | [] => RDs.nil
  | i :: is => RDs.cons rd_int (rds_ints is)
theorem wLc_eq {set : D → Sl → (Sl → Prop) → Prop} {test : Sl → Sto → (Bool → Sto → Prop) → Prop} {elt : Sl → Sto → QV → Prop} {same : Sto → Prop} {ρ : Sl} {ds acc : List D} {S : Sto} {Q : List D → Sto → Prop} (h : wLc set test elt same ρ ds acc S Q) : same S := by
  cases ds <;> (unfold wLc at h; exact h.1)
theorem si_read {w : World} {K : PySem.W.Frag} {mg : Str → Option Value} {B : List Addr} {fz : Bool} {is : List Nat} {wi : Sl → Sto → (List D → (Sto → Prop) → Sto → Prop) → Prop} {wg : D → Sl → (Sl → Prop) → Prop} {wt : Sl → Sto → (Bool → Sto → Prop) → Prop} {we : Sl → Sto → QV → Prop} {σ : L2.St} {H : Hp} {Q : VK}
    (h : RE ⟨K, mg, B⟩ S0 H0 (fun ρ S Q => wi ρ S fun ds same S1 => ds.length ≤ 1000 ∧ wLc wg wt (fun ρ S Q => we ρ S fun y S2 => (∃ i : Int, y = .int i) ∧ Q y S2) same (wipeD ρ is) ds [] S1 fun ys S2 => sscS fz ys S2 Q) σ H Q) :
    tSi w (RI ⟨K, mg, B⟩ S0 H0 wi) (RGa K mg wg is) (RTa K mg wt) (REa K mg we) is σ H fun x H1 => rSortedSet w [x] H1 Q := by
  obtain ⟨ρ, S, Qd, r, h, kk⟩ := h
  refine ⟨ρ, S, _, r, h, fun ds same S1 H1 J rs1 st1 itr ⟨hds, q1⟩ p hp => ?_⟩
  let gb : Gx := Gx.busy ⟨K, mg, B⟩ p
  have r1 := (r.step rs1 st1).wipe is
  let O : List Int → Nat → HO := fun acc n => SetO w p (fun j => decide (j ∈ acc)) n
  have noOwn : ∀ {acc : List Int} {n : Nat} {b : HO}, O acc n = b → ∀ e, b ≠ .own e := by
    intro acc n b e e' z
    rw [← e] at z
    cases z
  let I : Nat → Nat → Hp → Prop := fun i m H' => ∃ S' acc n, m = ds.length - i ∧ i ≤ ds.length ∧ RS gb S' H' ∧ Step S1 H1 S' H' ∧ H' p = some (O acc n) ∧ n ≤ acc.length ∧ acc.length ≤ i ∧ ItR gb J ds same S' H' ∧
    (∀ (j : Nat) (d : D), (wipeD ρ is)[j]? = some (some d) → ∃ v, (wipe σ is)[j]? = some (some v) ∧ RD gb S' H' d v) ∧ wLc wg wt (fun ρ S Q => we ρ S fun y S2 => (∃ i : Int, y = .int i) ∧ Q y S2) same (wipeD ρ is) (ds.drop i) (acc.map .int) S' fun ys S2 => sscS fz ys S2 Qd
  have e0 : SetO w p (fun _ => false) 0 = O [] 0 := by
    show SetO w p _ 0 = SetO w p _ 0
    congr 1 <;> (funext j; simp)
  rw [e0]
  refine ⟨I, ?_, ?_⟩
  · refine ⟨_, S1, [], 0, rfl, Nat.zero_le _, rs1.busy hp, (rs1.frozen hp).2, upd_same, Nat.le_refl _, Nat.le_refl _, itr.busy hp, fun j d e => ?_, q1⟩
    obtain ⟨v, e1, rd⟩ := r1.sl j d e
    exact ⟨v, e1, rd.busy hp⟩
  · rintro i m H' ⟨S', acc, n, rfl, hi, rs', st', hpv, hn, hacc, itr', sl', hw⟩
    have hsp : S' p = none := (rs'.2 p (List.mem_cons_self ..)).1
    obtain ⟨hgo, hstop⟩ := itr'.get rs'
    by_cases hlt : i < ds.length
    · right
      have hd : ds[i]? = some ds[i] := List.getElem?_eq_getElem hlt
      rw [List.drop_eq_getElem_cons hlt] at hw
      unfold wLc at hw
      obtain ⟨hsame, hw⟩ := hw
      refine ⟨(hgo i _ hd).1, fun H'' => ∃ m', m' < ds.length - i ∧ I (i + 1) m' H'', fun H'' h => h, fun x H'' hy => ?_⟩
      obtain ⟨rs2, st2, rd2⟩ := (hgo i _ hd).2 x H'' hy
      have rl : Rl gb S' H'' (wipeD ρ is) S' (wipe σ is) H'' := ⟨r1.len, fun j d e => by obtain ⟨v, e1, rd⟩ := sl' j d e; exact ⟨v, e1, rd.mono st2⟩, rs2, Step.refl _ _⟩
      have hp2 : H'' p = some (O acc n) := (st2 p _ hpv hsp).1
      have next : ∀ S4 H4 acc' n', RS gb S4 H4 → Step S' H'' S4 H4 → H4 p = some (O acc n) → n' ≤ acc'.length → acc'.length ≤ i + 1 → wLc wg wt (fun ρ S Q => we ρ S fun y S2 => (∃ i : Int, y = .int i) ∧ Q y S2) same (wipeD ρ is) (ds.drop (i + 1)) (acc'.map .int) S4 (fun ys S2 => sscS fz ys S2 Qd) →
          ∃ m', m' < ds.length - i ∧ I (i + 1) m' (upd H4 p (O acc' n')) := by
        intro S4 H4 acc' n' rs4 st4 hp4 hn' ha' hw4
        refine ⟨_, by omega, S4, acc', n', rfl, hlt, rs4.turn (fun b z => by rw [hp4] at z; exact noOwn rfl b (Option.some.inj z)), ?_, upd_same, hn', ha', ((itr'.step (st2.trans st4) (wLc_eq hw4))).turn, fun j d e => ?_, hw4⟩
        · intro a o ha hs
          have h3 := (st'.trans (st2.trans st4)) a o ha hs
          exact ⟨by rw [upd_ne (ne_of_none ha hp)]; exact h3.1, h3.2⟩
        · obtain ⟨v, e1, rd⟩ := sl' j d e
          exact ⟨v, e1, ((rd.mono st2).mono st4).turn⟩
      refine ⟨gb.B, S', H'', _, _, S', _, rd2, rl, hw, fun ρ2 σ2 r2 hwp q2 => ⟨(hwp is fun i hi => hi).trans wipe_wipe, gb.B, S', H'', ρ2, S', _, r2, q2, fun b S3 H3 rs3 st3 q3 => ?_⟩⟩
      have hp3 : H3 p = some (O acc n) := (st3 p _ hp2 hsp).1
      have hsp3 : S3 p = none := (st3 p _ hp2 hsp).2
      cases b with
      | true =>
        refine ⟨gb.B, S', H'', ρ2, S3, _, r2.step rs3 st3, q3, fun v y S4 H4 rd4 rs4 st4 q4 => ?_⟩
        obtain ⟨⟨z, rfl⟩, _, q4⟩ := q4
        have hp4 : H4 p = some (O acc n) := (st4 p _ hp3 hsp3).1
        have q4' : wLc wg wt (fun ρ S Q => we ρ S fun y S2 => (∃ i : Int, y = .int i) ∧ Q y S2) same (wipeD ρ is) (ds.drop (i + 1)) ((acc ++ [z]).map .int) S4 (fun ys S2 => sscS fz ys S2 Qd) := by
          rw [List.map_append]
          exact q4
        have nx := next S4 H4 (acc ++ [z]) (if decide (z ∈ acc) = true then n else n + 1) rs4 (st3.trans st4) hp4 (by rw [List.length_append]; simp only [List.length_singleton]; split <;> omega) (by rw [List.length_append]; simp only [List.length_singleton]; omega) q4'
        refine ⟨z, _, n, rd4.ofInt, hp4, by unfold scanBound; omega, ?_⟩
        have e : O (acc ++ [z]) (if decide (z ∈ acc) = true then n else n + 1) = SetO w p (fun j => decide (j ∈ acc) || decide (j = z)) (if decide (z ∈ acc) = true then n else n + 1) := by
          show SetO w p _ _ = SetO w p _ _
          congr 1
          funext j
          simp
        rw [← e]
        exact nx
      | false =>
        have e3 : upd H3 p (O acc n) = H3 := by
          funext a
          by_cases ha : a = p
          · subst ha; rw [upd_same, hp3]
          · rw [upd_ne ha]
        have := next S3 H3 acc n rs3 st3 hp3 hn (by omega) q3
        rw [e3] at this
        exact this
    · left
      have he : i = ds.length := by omega
      rw [he, List.drop_length] at hw
      unfold wLc at hw
      refine ⟨hstop i he, p, _, n, rfl, hpv, ?_, fun ns q hs hm hl hq => ?_⟩
      · obtain ⟨js, ej, lj, _⟩ := hw.2
        have := congrArg List.length ej
        rw [List.length_map, List.length_map] at this
        omega
      · obtain ⟨js, ej, lj, qj⟩ := hw.2
        have ea : acc = js := (List.map_inj_right fun a b z => by cases z; rfl).mp ej
        subst ea
        have en : ns = sortI acc := upI_eq hs (sortI_up acc) fun z => by rw [hm, mem_sortI, decide_eq_true_eq]
        rw [en]
        exact (kk.from (st1.trans st')).newL rs'.idle (rds_ints _) qj q hq
theorem pe_sorted_si {elt tg it0 : Expr} {ifs : List Expr} {scope : Scope} {own : List (PySem.Str × Nat)} {p p2 pos : Pos} {wi : TI} {g : TG} {tt : TT} {te : TE} (hc : X.calm = true) (hN : X.N.Nodup) (hgl : Gl X "sorted") (hm : X.mg "sorted" = none) (hi : PI X tg it0 wi) (ok : BlkOk X.N X.env.scope scope own)
    (hg : ∀ (s : Shared) (H : Hp) (C : Addr) (cl : List (PySem.Str × Addr)) (fp : List Addr), PG (X.blk s H scope (compEnvC scope cl C X.env) fp) tg g) (ht : ∀ (s : Shared) (H : Hp) (C : Addr) (cl : List (PySem.Str × Addr)) (fp : List Addr), PTs (X.blk s H scope (compEnvC scope cl C X.env) fp) ifs tt)
    (he : ∀ (s : Shared) (H : Hp) (C : Addr) (cl : List (PySem.Str × Addr)) (fp : List Addr), PE (X.blk s H scope (compEnvC scope cl C X.env) fp) elt te) (hs : ∀ x, foldedSetIterable it0 X.env x = pure x) :
    PE X (.Call (.Name "sorted" p) [.SetComp elt [⟨tg, it0, ifs, 0⟩] scope p2] [] pos) (fun σ H Q => tSi X.w wi g tt te (own.map (·.2)) σ H fun x H1 => rSortedSet X.w [x] H1 Q) := by
  refine ⟨fun pins s σ H Q I h => ?_⟩
  refine Call_ (ld_blt I hgl hm boot_so ?_)
  refine callWith_builtin1 (args_cons ?_ rfl) rfl rfl
  rw [eval_SetComp]
  refine si_core (Qf := fun v s1 => wpAny (model X.prog X.w) X.A (spliced (backTo pos (starEach [] X.env))) (fun vs s₂ => wpAny (model X.prog X.w) X.A (call (.builtin "sorted") (v :: vs)) (EP X pins σ Q) X.xe s₂) X.xe s1) hc hN I hi ok hg ht he hs h fun N C s' m H' J q hn f => ⟨m, hn, fun h'' sb => ?_⟩
  obtain ⟨f0, f1, f2, f3, f4, f5⟩ := f
  have J' := J.turned (t' := s'.toks) (h' := h'') (fun b o hb e => (sb.2 b hb).trans e) f0 f1 f3 f4 f5
  exact args_nil (cr_sortedSet hc pins _ σ H' [.ref N] [.ref N] Q J' (.cons rfl .nil) q)
end
end G
/-! G12: every expression that matches keeps its wish. -/
namespace G
open PySem L2
section
variable {T : Tab} {k : Nat}
def Snd (T : Tab) (k : Nat) (e : E) (x : Expr) (c : Sc) : Prop := ∀ g X ex S0 H0, Good T k g X c ex S0 H0 → PE X x (RE g S0 H0 (wX T e ex).v) ∧ PT X x (RT g S0 H0 (wX T e ex).t)
def SndS (T : Tab) (k : Nat) (es : Es) (xs : List Expr) (c : Sc) : Prop := xs.all noStar = true ∧ ∀ g X ex S0 H0, Good T k g X c ex S0 H0 → PA X xs (RA g S0 H0 (wEs T es ex)) ∧ (xs = [] → wEs T es ex = fun _ S Q => Q [] S)
def SndO (T : Tab) (k : Nat) (e : Eo) (x : Option Expr) (c : Sc) : Prop := ∀ g X ex S0 H0, Good T k g X c ex S0 H0 → PO X x (RP g S0 H0 (wO T e ex))
def SndI (T : Tab) (k : Nat) (it : It) (x tg : Expr) (c : Sc) : Prop := ∀ g X ex S0 H0, Good T k g X c ex S0 H0 → PI X tg x (RI g S0 H0 (wI T it ex))
def SndB (T : Tab) (k : Nat) (op : BoolOp) (es : Es) (xs : List Expr) (c : Sc) : Prop := xs ≠ [] → ∀ g X ex S0 H0, Good T k g X c ex S0 H0 → ∀ pos, PE X (.BoolOp op xs pos) (RE g S0 H0 (wB T op es ex).v) ∧ PW X (.BoolOp op xs pos) (RT g S0 H0 (wB T op es ex).t)
theorem s_val {g : Gx} {X : Cx} {c : Sc} {ex : QX} {S0 : Sto} {H0 : Hp} (gd : Good T k g X c ex S0 H0) {w : Sl → Sto → QV → Prop} {a : Expr} (ha : PE X a (RE g S0 H0 w)) (hw : ∀ whole : Sem Value, PySem.isTrue a X.env whole = do let v ← whole; standAt a.pos; holding [v] (truthy v)) :
    PE X a (RE g S0 H0 (mkV w).v) ∧ PT X a (RT g S0 H0 (mkV w).t) := ⟨ha, s_truth gd ha hw⟩
theorem no_mark {op : CmpOp} {b : Expr} (h : noSet b = true) : behindInMarks op b = false := by cases b <;> first | rfl | cases h
theorem blk_good {g : Gx} {X : Cx} {c : Sc} {ex : QX} {S0 S0' : Sto} {H0 H0' : Hp} {B : List Addr} (gd : Good T k g X c ex S0 H0) {scope : Scope} (s : Shared) (H : Hp) (C : Addr) (cl : List (Str × Addr)) (fp : List Addr) :
    Good T k ⟨g.K, g.mg, B⟩ (X.blk s H scope (compEnvC scope cl C X.env) fp) (c.blk scope) (fun _ _ => False) S0' H0' where
  gK := gd.gK
  gm := gd.gm
  N := gd.N
  sc := by
    show relS scope X.env.scope = relS scope c.sc
    rw [gd.sc]
  fnk := rfl
  nd := gd.nd
  calm := gd.calm
  room := gd.room
  gds := gd.gds
  ge := gd.ge
  pass := fun pins σ H s e s' I h => by
    obtain ⟨_, _, _, _, _, _, _, _, _, _, _, _, q⟩ := h
    obtain ⟨_, _, _, _, _, z⟩ := q
    exact z.elim
theorem own_slots {N : List Str} {is : List Nat} (h : (ownOf N is).length = is.length) : (ownOf N is).map (·.2) = is := by
  induction is with
  | nil => rfl
  | cons i is ih =>
    unfold ownOf at h ⊢
    have hle : (List.filterMap (fun i => (N[i]?).map fun x => (x, i)) is).length ≤ is.length := List.length_filterMap_le ..
    cases e : N[i]? with
    | none =>
      rw [List.filterMap_cons, e] at h
      simp only [Option.map_none, List.length_cons] at h
      omega
    | some x =>
      rw [List.filterMap_cons, e] at h ⊢
      simp only [Option.map_some, List.length_cons, Nat.add_right_cancel_iff, List.map_cons] at h ⊢
      have := ih h
      unfold ownOf at this
      rw [this]
theorem ands {a b : Bool} (h : (a && b) = true) : a = true ∧ b = true := by rwa [Bool.and_eq_true] at h
theorem ne_dbg {x y : Str} (h : (!(x == y)) = true) : (x == y) = false := by simpa using h
/-- a comprehension's parts -/
def LcParts (X : Cx) (elt' : Expr) (gs : List Comprehension) (scope : Scope) (t : TE) : Prop :=
  ∃ (tg it : Expr) (ifs : List Expr) (wi : TI) (gt : TG) (tt : TT) (te : TE) (own : List (Str × Nat)), gs = [⟨tg, it, ifs, 0⟩] ∧ PI X tg it wi ∧ BlkOk X.N X.env.scope scope own ∧
    (∀ (s : Shared) (H : Hp) (C : Addr) (cl : List (Str × Addr)) (fp : List Addr), PG (X.blk s H scope (compEnvC scope cl C X.env) fp) tg gt) ∧
    (∀ (s : Shared) (H : Hp) (C : Addr) (cl : List (Str × Addr)) (fp : List Addr), PTs (X.blk s H scope (compEnvC scope cl C X.env) fp) ifs tt) ∧
    (∀ (s : Shared) (H : Hp) (C : Addr) (cl : List (Str × Addr)) (fp : List Addr), PE (X.blk s H scope (compEnvC scope cl C X.env) fp) elt' te) ∧
    (∀ x, foldedSetIterable it X.env x = pure x) ∧ ∀ σ H Q, t σ H Q → tLc wi gt tt te (own.map (·.2)) σ H Q
def mQ (c : Sc) : Eo → Expr → Bool
  | .no, _ => false
  | .yes e, x => mE c e x
def SndQ (T : Tab) (k : Nat) (e : Eo) (x : Expr) (c : Sc) : Prop := ∀ g X ex S0 H0, Good T k g X c ex S0 H0 → PT X x (RT g S0 H0 (wTo T e ex))
theorem lc_parts {fz : Bool} {elt : E} {tg : Tg} {it : It} {ifs : Eo} {elt' : Expr} {gs : List Comprehension} {scope : Scope} {pos : Pos} {c : Sc} (h : mE c (.lc fz elt tg it ifs) (.ListComp elt' gs scope pos) = true)
    (i1 : ∀ x c, mE c elt x = true → Snd T k elt x c) (i2 : ∀ x tg c, mI c it x tg = true → SndI T k it x tg c) (i3 : ∀ x c, mQ c ifs x = true → SndQ T k ifs x c) :
    ∀ g X ex S0 H0, Good T k g X c ex S0 H0 → LcParts X elt' gs scope (RE g S0 H0 (wX T (.lc fz elt tg it ifs) ex).v) := by
  unfold mE at h
  split at h
  · rename_i tg' it' ifs'
    obtain ⟨h, h7⟩ := ands h
    obtain ⟨h, h6⟩ := ands h
    obtain ⟨h, h5⟩ := ands h
    obtain ⟨h, h4⟩ := ands h
    obtain ⟨h, h3⟩ := ands h
    obtain ⟨h1, h2⟩ := ands h
    have ho := own_slots (of_decide_eq_true h4)
    intro g X ex S0 H0 gd
    have hi := i2 it' tg' c h1 g X ex S0 H0 gd
    have hs : ∀ x, foldedSetIterable it' X.env x = pure x := by
      intro x
      cases it' <;> first | rfl | cases h2
    have ok : BlkOk X.N X.env.scope scope (ownOf c.N (tgSlots tg)) := by
      rw [gd.N, gd.sc]
      exact blkOk_by h3
    obtain ⟨K, mg, B⟩ := g
    have hg : ∀ (s : Shared) (H : Hp) (C : Addr) (cl : List (Str × Addr)) (fp : List Addr), PG (X.blk s H scope (compEnvC scope cl C X.env) fp) tg' (RGa K mg (wG tg) (tgSlots tg)) :=
      fun s H C cl fp => ⟨fun pins s' σ H' x v Q I r ⟨B', S0', H0', q⟩ => (sG (blk_good gd s H C cl fp) tg tg' h5).run pins s' σ H' x v Q I r q⟩
    have he : ∀ (s : Shared) (H : Hp) (C : Addr) (cl : List (Str × Addr)) (fp : List Addr), PE (X.blk s H scope (compEnvC scope cl C X.env) fp) elt' (REa K mg fun ρ S Q => (wX T elt fun _ _ => False).v ρ S Q) :=
      fun s H C cl fp => ⟨fun pins s' σ H' Q I ⟨B', S0', H0', q⟩ => (i1 elt' (c.blk scope) h6 ⟨K, mg, B'⟩ _ _ S0' H0' (blk_good gd s H C cl fp)).1.run pins s' σ H' Q I q⟩
    have ht : ∀ (s : Shared) (H : Hp) (C : Addr) (cl : List (Str × Addr)) (fp : List Addr), PTs (X.blk s H scope (compEnvC scope cl C X.env) fp) ifs' (RTa K mg (wTo T ifs fun _ _ => False)) := by
      intro s H C cl fp
      split at h7
      · cases ifs with
        | no =>
          refine ⟨fun pins s' σ H' Q I q => pts_nil.run pins s' σ H' Q I ?_⟩
          obtain ⟨B', S0', H0', ρ, S, Qd, r, hh, kk⟩ := q
          unfold wTo at hh
          exact kk true S H' r.rs (Step.refl S H') hh
        | yes e => cases h7
      · cases ifs with
        | no => cases h7
        | yes e =>
          refine ⟨fun pins s' σ H' Q I q => ?_⟩
          obtain ⟨B', S0', H0', ρ, S, Qd, r, hh, kk⟩ := q
          exact (pts_one (i3 _ (c.blk scope) (by unfold mQ; exact h7) ⟨K, mg, B'⟩ _ _ S0' H0' (blk_good gd s H C cl fp))).run pins s' σ H' Q I ⟨ρ, S, Qd, r, hh, kk⟩
      · cases h7
    refine ⟨tg', it', ifs', _, _, _, _, ownOf c.N (tgSlots tg), rfl, hi, ok, hg, ht, he, hs, fun σ H Q q => ?_⟩
    rw [ho]
    unfold wX at q
    exact lc_read q
  · cases h
/-- a name of this def is bound to a new dict that a comprehension lays, on its own line -/
theorem set_dc {X : Cx} {kx vx tg it : Expr} {ifs : List Expr} {scope : Scope} {own : List (Str × Nat)} {pos spos py : Pos} {i : Nat} {y : Str} {wi : TI} {g : TG} {tt : TT} {tk tv : TE} (hc : X.calm = true) (hN : X.N.Nodup)
    (hy : X.N[i]? = some y) (hl : X.env.scope.names.lookup y = some .local) (hw : swapsWith (.DictComp kx vx [⟨tg, it, ifs, 0⟩] scope pos) (some (.Name y py)) spos.line X.env = pure true) (hi : PI X tg it wi) (ok : BlkOk X.N X.env.scope scope own)
    (hg : ∀ (s : Shared) (H : Hp) (C : Addr) (cl : List (Str × Addr)) (fp : List Addr), PG (X.blk s H scope (compEnvC scope cl C X.env) fp) tg g) (ht : ∀ (s : Shared) (H : Hp) (C : Addr) (cl : List (Str × Addr)) (fp : List Addr), PTs (X.blk s H scope (compEnvC scope cl C X.env) fp) ifs tt)
    (hk : ∀ (s : Shared) (H : Hp) (C : Addr) (cl : List (Str × Addr)) (fp : List Addr), PE (X.blk s H scope (compEnvC scope cl C X.env) fp) kx tk) (he : ∀ (s : Shared) (H : Hp) (C : Addr) (cl : List (Str × Addr)) (fp : List Addr), PE (X.blk s H scope (compEnvC scope cl C X.env) fp) vx tv)
    (hs : ∀ x, foldedSetIterable it X.env x = pure x) : PS X (.Assign [.Name y py] (.DictComp kx vx [⟨tg, it, ifs, 0⟩] scope pos) spos) (tAsg (tDc wi g tt tk tv (own.map (·.2))) (gName i)) := ⟨fun pins s σ H N I q => by
  rw [exec_Assign_Name_used _ _ _ _ hw]
  refine wpAny_bind (wpAny_standAt (wpAny_bind ?_))
  show wpAny _ X.A (do let _ ← comprehension (.DictComp kx vx [⟨tg, it, ifs, 0⟩] scope pos) scope X.env (firstIterPos [⟨tg, it, ifs, 0⟩] pos) newDict false (eval it X.env) (some (assign (.Name y py) X.env))) _ _ s
  have q : tDc wi g tt tk tv (own.map (·.2)) σ H (fun x H1 => gName i x σ H1 N.nx) := q
  refine wpAny_bind (thn (dc_core (Qf := fun _ s' => SP X pins N .next s') hc hN I hi ok hg ht hk he hs q fun D C t m H' J z ns fp => ?_) fun _ t z => wpAny_pure (wpAny_pure z))
  show wpAny _ _ (assign (.Name y py) X.env (.ref D)) _ _ _
  refine wpAny_assign_Name (store_ok2 (v := V.ref D) J hN hy (.inl hl) rfl (fun t2 J2 ⟨a, sb, ha⟩ => ?_) (.inr hl))
  have ne : C ≠ a := ha.elim (fun e => e ▸ fp.2.1) (fun e h => fp.2.2.2.2.1 y a e h.symm)
  exact ⟨m, ns.sameBut sb ne, fun _ s3 => ⟨_, H', J2.turned (t' := t2.toks) (fun b _ hb e => (s3.2 b hb).trans e) fp.1 fp.2.1 fp.2.2.2.1 fp.2.2.2.2.1 fp.2.2.2.2.2, z⟩⟩⟩
theorem dc_sound {fz : Bool} {kx vx : E} {tg : Tg} {it : It} {ifs : Eo} {kx' vx' : Expr} {gs : List Comprehension} {scope : Scope} {pos : Pos} {c : Sc} (h : mE c (.dc fz kx vx tg it ifs) (.DictComp kx' vx' gs scope pos) = true)
    (i0 : ∀ x c, mE c kx x = true → Snd T k kx x c) (i1 : ∀ x c, mE c vx x = true → Snd T k vx x c) (i2 : ∀ x tg c, mI c it x tg = true → SndI T k it x tg c) (i3 : ∀ x c, mQ c ifs x = true → SndQ T k ifs x c) :
    ∀ g X ex S0 H0, Good T k g X c ex S0 H0 → PE X (.DictComp kx' vx' gs scope pos) (RE g S0 H0 (wX T (.dc fz kx vx tg it ifs) ex).v) ∧
      ∀ (i : Nat) (y : Str) (py spos : Pos), X.N[i]? = some y → X.env.scope.names.lookup y = some .local → swapsWith (.DictComp kx' vx' gs scope pos) (some (.Name y py)) spos.line X.env = pure true →
        PS X (.Assign [.Name y py] (.DictComp kx' vx' gs scope pos) spos) (tAsg (RE g S0 H0 (wX T (.dc fz kx vx tg it ifs) ex).v) (gName i)) := by
  unfold mE at h
  split at h
  · rename_i tg' it' ifs'
    obtain ⟨h, h7⟩ := ands h
    obtain ⟨h, h8⟩ := ands h
    obtain ⟨h, h6⟩ := ands h
    obtain ⟨h, h5⟩ := ands h
    obtain ⟨h, h4⟩ := ands h
    obtain ⟨h, h3⟩ := ands h
    obtain ⟨h1, h2⟩ := ands h
    have ho := own_slots (of_decide_eq_true h4)
    intro g X ex S0 H0 gd
    have hi := i2 it' tg' c h1 g X ex S0 H0 gd
    have hs : ∀ x, foldedSetIterable it' X.env x = pure x := by
      intro x
      cases it' <;> first | rfl | cases h2
    have ok : BlkOk X.N X.env.scope scope (ownOf c.N (tgSlots tg)) := by
      rw [gd.N, gd.sc]
      exact blkOk_by h3
    obtain ⟨K, mg, B⟩ := g
    have hg : ∀ (s : Shared) (H : Hp) (C : Addr) (cl : List (Str × Addr)) (fp : List Addr), PG (X.blk s H scope (compEnvC scope cl C X.env) fp) tg' (RGa K mg (wG tg) (tgSlots tg)) :=
      fun s H C cl fp => ⟨fun pins s' σ H' x v Q I r ⟨B', S0', H0', q⟩ => (sG (blk_good gd s H C cl fp) tg tg' h5).run pins s' σ H' x v Q I r q⟩
    have hk : ∀ (s : Shared) (H : Hp) (C : Addr) (cl : List (Str × Addr)) (fp : List Addr), PE (X.blk s H scope (compEnvC scope cl C X.env) fp) kx' (REa K mg fun ρ S Q => (wX T kx fun _ _ => False).v ρ S Q) :=
      fun s H C cl fp => ⟨fun pins s' σ H' Q I ⟨B', S0', H0', q⟩ => (i0 kx' (c.blk scope) h6 ⟨K, mg, B'⟩ _ _ S0' H0' (blk_good gd s H C cl fp)).1.run pins s' σ H' Q I q⟩
    have he : ∀ (s : Shared) (H : Hp) (C : Addr) (cl : List (Str × Addr)) (fp : List Addr), PE (X.blk s H scope (compEnvC scope cl C X.env) fp) vx' (REa K mg fun ρ S Q => (wX T vx fun _ _ => False).v ρ S Q) :=
      fun s H C cl fp => ⟨fun pins s' σ H' Q I ⟨B', S0', H0', q⟩ => (i1 vx' (c.blk scope) h8 ⟨K, mg, B'⟩ _ _ S0' H0' (blk_good gd s H C cl fp)).1.run pins s' σ H' Q I q⟩
    have ht : ∀ (s : Shared) (H : Hp) (C : Addr) (cl : List (Str × Addr)) (fp : List Addr), PTs (X.blk s H scope (compEnvC scope cl C X.env) fp) ifs' (RTa K mg (wTo T ifs fun _ _ => False)) := by
      intro s H C cl fp
      split at h7
      · cases ifs with
        | no =>
          refine ⟨fun pins s' σ H' Q I q => pts_nil.run pins s' σ H' Q I ?_⟩
          obtain ⟨B', S0', H0', ρ, S, Qd, r, hh, kk⟩ := q
          unfold wTo at hh
          exact kk true S H' r.rs (Step.refl S H') hh
        | yes e => cases h7
      · cases ifs with
        | no => cases h7
        | yes e =>
          refine ⟨fun pins s' σ H' Q I q => ?_⟩
          obtain ⟨B', S0', H0', ρ, S, Qd, r, hh, kk⟩ := q
          exact (pts_one (i3 _ (c.blk scope) (by unfold mQ; exact h7) ⟨K, mg, B'⟩ _ _ S0' H0' (blk_good gd s H C cl fp))).run pins s' σ H' Q I ⟨ρ, S, Qd, r, hh, kk⟩
      · cases h7
    have rd : ∀ σ H Q, RE ⟨K, mg, B⟩ S0 H0 (wX T (.dc fz kx vx tg it ifs) ex).v σ H Q → tDc (RI ⟨K, mg, B⟩ S0 H0 (wI T it ex)) (RGa K mg (wG tg) (tgSlots tg)) (RTa K mg (wTo T ifs fun _ _ => False)) (REa K mg fun ρ S Q => (wX T kx fun _ _ => False).v ρ S Q) (REa K mg fun ρ S Q => (wX T vx fun _ _ => False).v ρ S Q) ((ownOf c.N (tgSlots tg)).map (·.2)) σ H Q := by
      intro σ H Q q
      rw [ho]
      unfold wX at q
      exact dc_read q
    exact ⟨(pe_dc (pos := pos) gd.calm gd.nd hi ok hg ht hk he hs).imp rd, fun i y py spos hy hl hw => (set_dc gd.calm gd.nd hy hl hw hi ok hg ht hk he hs).imp fun N σ H q => rd σ H _ q⟩
  · cases h
theorem ssc_sound {fz : Bool} {elt : E} {tg : Tg} {it : It} {ifs : Eo} {fx : Expr} {es' : List Expr} {ks : List Keyword} {pos : Pos} {c : Sc} (h : mE c (.ssc fz elt tg it ifs) (.Call fx es' ks pos) = true)
    (i1 : ∀ x c, mE c elt x = true → Snd T k elt x c) (i2 : ∀ x tg c, mI c it x tg = true → SndI T k it x tg c) (i3 : ∀ x c, mQ c ifs x = true → SndQ T k ifs x c) :
    ∀ g X ex S0 H0, Good T k g X c ex S0 H0 → PE X (.Call fx es' ks pos) (RE g S0 H0 (wX T (.ssc fz elt tg it ifs) ex).v) := by
  unfold mE at h
  split at h
  · rename_i x px elt' tg' it' ifs' scope ps
    obtain ⟨h, h9⟩ := ands h
    obtain ⟨hx, hgl⟩ := ands h
    rw [beq_iff_eq] at hx
    subst hx
    obtain ⟨h, h7⟩ := ands h9
    obtain ⟨h, h6⟩ := ands h
    obtain ⟨h, h5⟩ := ands h
    obtain ⟨h, h4⟩ := ands h
    obtain ⟨h, h3⟩ := ands h
    obtain ⟨h1, h2⟩ := ands h
    have ho := own_slots (of_decide_eq_true h4)
    intro g X ex S0 H0 gd
    have hi := i2 it' tg' c h1 g X ex S0 H0 gd
    have hs : ∀ x, foldedSetIterable it' X.env x = pure x := by
      intro x
      cases it' <;> first | rfl | cases h2
    have ok : BlkOk X.N X.env.scope scope (ownOf c.N (tgSlots tg)) := by
      rw [gd.N, gd.sc]
      exact blkOk_by h3
    obtain ⟨K, mg, B⟩ := g
    have hg : ∀ (s : Shared) (H : Hp) (C : Addr) (cl : List (Str × Addr)) (fp : List Addr), PG (X.blk s H scope (compEnvC scope cl C X.env) fp) tg' (RGa K mg (wG tg) (tgSlots tg)) :=
      fun s H C cl fp => ⟨fun pins s' σ H' x v Q I r ⟨B', S0', H0', q⟩ => (sG (blk_good gd s H C cl fp) tg tg' h5).run pins s' σ H' x v Q I r q⟩
    have he : ∀ (s : Shared) (H : Hp) (C : Addr) (cl : List (Str × Addr)) (fp : List Addr), PE (X.blk s H scope (compEnvC scope cl C X.env) fp) elt' (REa K mg fun ρ S Q => (wX T elt fun _ _ => False).v ρ S Q) :=
      fun s H C cl fp => ⟨fun pins s' σ H' Q I ⟨B', S0', H0', q⟩ => (i1 elt' (c.blk scope) h6 ⟨K, mg, B'⟩ _ _ S0' H0' (blk_good gd s H C cl fp)).1.run pins s' σ H' Q I q⟩
    have ht : ∀ (s : Shared) (H : Hp) (C : Addr) (cl : List (Str × Addr)) (fp : List Addr), PTs (X.blk s H scope (compEnvC scope cl C X.env) fp) ifs' (RTa K mg (wTo T ifs fun _ _ => False)) := by
      intro s H C cl fp
      split at h7
      · cases ifs with
        | no =>
          refine ⟨fun pins s' σ H' Q I q => pts_nil.run pins s' σ H' Q I ?_⟩
          obtain ⟨B', S0', H0', ρ, S, Qd, r, hh, kk⟩ := q
          unfold wTo at hh
          exact kk true S H' r.rs (Step.refl S H') hh
        | yes e => cases h7
      · cases ifs with
        | no => cases h7
        | yes e =>
          refine ⟨fun pins s' σ H' Q I q => ?_⟩
          obtain ⟨B', S0', H0', ρ, S, Qd, r, hh, kk⟩ := q
          exact (pts_one (i3 _ (c.blk scope) (by unfold mQ; exact h7) ⟨K, mg, B'⟩ _ _ S0' H0' (blk_good gd s H C cl fp))).run pins s' σ H' Q I ⟨ρ, S, Qd, r, hh, kk⟩
      · cases h7
    refine (pe_sorted_si gd.calm gd.nd (gd.gl hgl) (by rw [gd.gm]; exact gd.ge.blt _ (by decide +kernel)) hi ok hg ht he hs).imp fun σ H Q q => ?_
    rw [ho]
    unfold wX at q
    exact si_read q
  · cases h
mutual
theorem sE : ∀ (e : E) (x : Expr) (c : Sc), mE c e x = true → Snd T k e x c
  | .loc i, x, c, h => by
    cases x with
    | Name y pos =>
      unfold mE at h
      obtain ⟨h, h4⟩ := ands h
      obtain ⟨h, h3⟩ := ands h
      obtain ⟨h1, h2⟩ := ands h
      intro g X ex S0 H0 gd
      unfold wX
      exact s_val gd (s_loc gd (by simpa using h1) h2 (ne_dbg h3) (ne_dbg h4)) fun _ => rfl
    | _ => unfold mE at h; cases h
  | .const d, x, c, h => by
    cases x with
    | Constant cs j pos =>
      unfold mE at h
      intro g X ex S0 H0 gd
      unfold wX
      exact s_val gd (s_const h) fun _ => rfl
    | _ => unfold mE at h; cases h
  | .glob y, x, c, h => by
    cases x with
    | Name z pos =>
      unfold mE at h
      obtain ⟨h, h3⟩ := ands h
      obtain ⟨h1, h2⟩ := ands h
      rw [beq_iff_eq] at h1
      subst h1
      intro g X ex S0 H0 gd
      unfold wX
      exact s_val gd (s_glob gd h2 (ne_dbg h3)) fun _ => rfl
    | _ => unfold mE at h; cases h
  | .bin op a b, x, c, h => by
    cases x with
    | BinOp a' op' b' pos =>
      unfold mE at h
      obtain ⟨h, h3⟩ := ands h
      obtain ⟨h1, h2⟩ := ands h
      have e := opB_eq h1
      subst e
      intro g X ex S0 H0 gd
      unfold wX
      exact s_val gd (s_bin gd (sE a a' c h2 g X ex S0 H0 gd).1 (sE b b' c h3 g X ex S0 H0 gd).1) fun _ => rfl
    | _ => unfold mE at h; cases h
  | .neg a, x, c, h => by
    cases x with
    | UnaryOp op a' pos =>
      unfold mE at h
      obtain ⟨h1, h2⟩ := ands h
      cases op with
      | USub =>
        intro g X ex S0 H0 gd
        unfold wX
        exact s_val gd (s_neg (sE a a' c h2 g X ex S0 H0 gd).1) fun _ => rfl
      | _ => cases h1
    | _ => unfold mE at h; cases h
  | .cmp op a b, x, c, h => by
    cases x with
    | Compare a' ops bs pos =>
      unfold mE at h
      split at h
      · obtain ⟨h, h4⟩ := ands h
        obtain ⟨h, h3⟩ := ands h
        obtain ⟨h1, h2⟩ := ands h
        have e := cmB_eq h1
        subst e
        intro g X ex S0 H0 gd
        unfold wX
        have ha := (sE a a' c h2 g X ex S0 H0 gd).1
        have hb := (sE b _ c h3 g X ex S0 H0 gd).1
        exact ⟨s_cmp gd ha hb (no_mark h4), s_cmpT gd ha hb (no_mark h4)⟩
      · cases h
    | _ => unfold mE at h; cases h
  | .cmp2 op1 op2 a b d, x, c, h => by
    cases x with
    | Compare a' ops bs pos =>
      unfold mE at h
      split at h
      · obtain ⟨h, h6⟩ := ands h
        obtain ⟨h, h5⟩ := ands h
        obtain ⟨h, h4⟩ := ands h
        obtain ⟨h, h3⟩ := ands h
        obtain ⟨h1, h2⟩ := ands h
        have e := cmB_eq h1
        have e' := cmB_eq h2
        subst e e'
        intro g X ex S0 H0 gd
        unfold wX
        have ha := (sE a a' c h3 g X ex S0 H0 gd).1
        have hb := (sE b _ c h4 g X ex S0 H0 gd).1
        have hd := (sE d _ c h5 g X ex S0 H0 gd).1
        exact ⟨s_cmp2 gd ha hb hd (no_mark h6), s_cmp2T gd ha hb hd (no_mark h6)⟩
      · cases h
    | _ => unfold mE at h; cases h
  | .bool op es, x, c, h => by
    cases x with
    | BoolOp op' es' pos =>
      unfold mE at h
      obtain ⟨h, h3⟩ := ands h
      obtain ⟨h1, h2⟩ := ands h
      have e := boB_eq h1
      subst e
      have ne : es' ≠ [] := by rintro rfl; cases h3
      intro g X ex S0 H0 gd
      unfold wX
      have q := sB op es es' c h2 ne g X ex S0 H0 gd pos
      exact ⟨q.1, q.2.pt⟩
    | _ => unfold mE at h; cases h
  | .not a, x, c, h => by
    cases x with
    | UnaryOp op a' pos =>
      unfold mE at h
      obtain ⟨h1, h2⟩ := ands h
      cases op with
      | Not =>
        intro g X ex S0 H0 gd
        unfold wX
        have q := sE a a' c h2 g X ex S0 H0 gd
        exact ⟨s_not gd q.1, s_notT q.2⟩
      | _ => cases h1
    | _ => unfold mE at h; cases h
  | .ite t a b, x, c, h => by
    cases x with
    | IfExp t' a' b' pos =>
      unfold mE at h
      obtain ⟨h, h3⟩ := ands h
      obtain ⟨h1, h2⟩ := ands h
      intro g X ex S0 H0 gd
      unfold wX
      refine ⟨s_ite (sE t t' c h1 g X ex S0 H0 gd).2 (sE a a' c h2 g X ex S0 H0 gd).1 (sE b b' c h3 g X ex S0 H0 gd).1, ⟨fun pins s σ H Q I q => ?_⟩⟩
      obtain ⟨_, _, _, _, z, _⟩ := q
      exact z.elim
    | _ => unfold mE at h; cases h
  | .call f es df, x, c, h => by
    cases x with
    | Call fx es' ks pos =>
      unfold mE at h
      split at h
      · obtain ⟨h, h4⟩ := ands h
        obtain ⟨h, h3⟩ := ands h
        obtain ⟨h1, h2⟩ := ands h
        rw [beq_iff_eq] at h1
        subst h1
        intro g X ex S0 H0 gd
        unfold wX
        obtain ⟨a1, a2⟩ := sEs es es' c h4
        exact s_val gd (s_call gd h2 (ne_dbg h3) (a2 g X ex S0 H0 gd).1 a1 (a2 g X ex S0 H0 gd).2) fun _ => rfl
      · cases h
    | _ => unfold mE at h; cases h
  | .callk f es ks kes pl, x, c, h => by
    cases x with
    | Call fx es' kws pos =>
      unfold mE at h
      split at h
      · obtain ⟨h, h6⟩ := ands h
        obtain ⟨h, h5⟩ := ands h
        obtain ⟨h, h4⟩ := ands h
        obtain ⟨h, h3⟩ := ands h
        obtain ⟨h1, h2⟩ := ands h
        rw [beq_iff_eq] at h1
        subst h1
        intro g X ex S0 H0 gd
        unfold wX
        obtain ⟨a1, a2⟩ := sEs es es' c h4
        obtain ⟨b1, b2⟩ := sKs kes ks kws c h5
        have len0 : es' = [] → esLen es = 0 := fun e => by
          subst e
          cases es with
          | nil => rfl
          | cons _ _ => unfold mEs at h4; cases h4
        exact s_val gd (s_callk gd h2 (ne_dbg h3) (a2 g X ex S0 H0 gd).1 a1 (fun e => ⟨len0 e, (a2 g X ex S0 H0 gd).2 e⟩) (b2 g X ex S0 H0 gd) b1) fun _ => rfl
      · cases h
    | _ => unfold mE at h; cases h
  | .make fz f es df, x, c, h => by
    cases x with
    | Call fx es' ks pos =>
      unfold mE at h
      split at h
      · obtain ⟨h, h4⟩ := ands h
        obtain ⟨h, h3⟩ := ands h
        obtain ⟨h1, h2⟩ := ands h
        rw [beq_iff_eq] at h1
        subst h1
        intro g X ex S0 H0 gd
        unfold wX
        obtain ⟨a1, a2⟩ := sEs es es' c h4
        exact s_val gd (s_make gd h2 (ne_dbg h3) (a2 g X ex S0 H0 gd).1 a1 (a2 g X ex S0 H0 gd).2) fun _ => rfl
      · cases h
    | _ => unfold mE at h; cases h
  | .bi fz b es, x, c, h => by
    cases x with
    | Call fx es' ks pos =>
      unfold mE at h
      split at h
      · obtain ⟨h, h4⟩ := ands h
        obtain ⟨h, h3⟩ := ands h
        obtain ⟨h1, h2⟩ := ands h
        rw [beq_iff_eq] at h1
        subst h1
        intro g X ex S0 H0 gd
        unfold wX
        obtain ⟨a1, a2⟩ := sEs es es' c h3
        cases es' with
        | nil => cases h4
        | cons e' es' => exact s_val gd (s_bi gd h2 (a2 g X ex S0 H0 gd).1 a1) fun _ => rfl
      · cases h
    | _ => unfold mE at h; cases h
  | .isi a t, x, c, h => by
    cases x with
    | Call fx es' ks pos =>
      unfold mE at h
      split at h
      · obtain ⟨h, h7⟩ := ands h
        obtain ⟨h, h6⟩ := ands h
        obtain ⟨h, h5⟩ := ands h
        obtain ⟨h, h4⟩ := ands h
        obtain ⟨h, h3⟩ := ands h
        obtain ⟨h1, h2⟩ := ands h
        rw [beq_iff_eq] at h1
        subst h1
        intro g X ex S0 H0 gd
        unfold wX
        exact s_val gd (s_isi gd h2 h3 (ne_dbg h5) h6 h4 (sE a _ c h7 g X ex S0 H0 gd).1) fun _ => rfl
      · cases h
    | _ => unfold mE at h; cases h
  | .meth m o es, x, c, h => by
    cases x with
    | Call fx es' ks pos =>
      unfold mE at h
      split at h
      · obtain ⟨h, h7⟩ := ands h
        obtain ⟨h, h6⟩ := ands h
        obtain ⟨h, h5⟩ := ands h
        obtain ⟨h, h4⟩ := ands h
        obtain ⟨h, h3⟩ := ands h
        obtain ⟨h1, h2⟩ := ands h
        rw [beq_iff_eq] at h1
        subst h1
        intro g X ex S0 H0 gd
        unfold wX
        obtain ⟨a1, a2⟩ := sEs es es' c h4
        cases es' with
        | nil => cases h5
        | cons e' es' => exact s_val gd (s_meth gd (sE o _ c h2 g X ex S0 H0 gd).1 (a2 g X ex S0 H0 gd).1 a1 h3 (of_decide_eq_true h6) h7) fun _ => rfl
      · cases h
    | _ => unfold mE at h; cases h
  | .own o C m es, x, c, h => by
    cases x with
    | Call fx es' ks pos =>
      unfold mE at h
      split at h
      · obtain ⟨h, h6⟩ := ands h
        obtain ⟨h, h5⟩ := ands h
        obtain ⟨h, h4⟩ := ands h
        obtain ⟨h, h3⟩ := ands h
        obtain ⟨h1, h2⟩ := ands h
        rw [beq_iff_eq] at h1
        subst h1
        intro g X ex S0 H0 gd
        unfold wX
        obtain ⟨a1, a2⟩ := sEs es es' c h4
        exact s_val gd (s_own gd (sE o _ c h2 g X ex S0 H0 gd).1 (a2 g X ex S0 H0 gd).1 a1 h3 (of_decide_eq_true h5) h6 (a2 g X ex S0 H0 gd).2) fun _ => rfl
      · cases h
    | _ => unfold mE at h; cases h
  | .attr o f, x, c, h => by
    cases x with
    | Attribute o' y pos =>
      unfold mE at h
      obtain ⟨h, h3⟩ := ands h
      obtain ⟨h1, h2⟩ := ands h
      rw [beq_iff_eq] at h1
      subst h1
      intro g X ex S0 H0 gd
      unfold wX
      exact s_val gd (s_attr gd (sE o o' c h2 g X ex S0 H0 gd).1 h3) fun _ => rfl
    | _ => unfold mE at h; cases h
  | .sub o i, x, c, h => by
    cases x with
    | Subscript o' i' pos =>
      unfold mE at h
      obtain ⟨h, h3⟩ := ands h
      obtain ⟨h1, h2⟩ := ands h
      intro g X ex S0 H0 gd
      unfold wX
      exact s_val gd (s_sub gd (sE o o' c h1 g X ex S0 H0 gd).1 (sE i i' c h2 g X ex S0 H0 gd).1 h3) fun _ => rfl
    | _ => unfold mE at h; cases h
  | .sl o lo hi, x, c, h => by
    cases x with
    | Subscript o' i' pos =>
      unfold mE at h
      split at h
      · obtain ⟨h, h3⟩ := ands h
        obtain ⟨h1, h2⟩ := ands h
        intro g X ex S0 H0 gd
        unfold wX
        exact s_val gd (s_sl gd (sE o o' c h1 g X ex S0 H0 gd).1 (sO lo _ c h2 g X ex S0 H0 gd) (sO hi _ c h3 g X ex S0 H0 gd)) fun _ => rfl
      · cases h
    | _ => unfold mE at h; cases h
  | .tup es, x, c, h => by
    cases x with
    | Tuple es' n pos =>
      unfold mE at h
      intro g X ex S0 H0 gd
      unfold wX
      exact s_val gd (s_tup ((sEs es es' c h).2 g X ex S0 H0 gd).1) fun _ => rfl
    | _ => unfold mE at h; cases h
  | .lst fz es, x, c, h => by
    cases x with
    | List es' pos =>
      unfold mE at h
      intro g X ex S0 H0 gd
      unfold wX
      exact s_val gd (s_lst ((sEs es es' c h).2 g X ex S0 H0 gd).1) fun _ => rfl
    | _ => unfold mE at h; cases h
  | .lc fz elt tg it ifs, x, c, h => by
    cases x with
    | ListComp elt' gs scope pos =>
      intro g X ex S0 H0 gd
      obtain ⟨tg', it', ifs', wi, gt, tt, te, own, rfl, hi, ok, hg, ht, he, hs, rd⟩ := lc_parts h (fun x c h => sE elt x c h) (fun x tg c h => sI it x tg c h) (fun x c h => sQ ifs x c h) g X ex S0 H0 gd
      unfold wX at rd ⊢
      exact s_val gd ((pe_lc (pos := pos) gd.calm gd.nd hi ok hg ht he hs).imp fun σ H Q q => rd σ H Q q) fun _ => rfl
    | _ => unfold mE at h; cases h
  | .bad, x, c, h => by
    intro g X ex S0 H0 gd
    unfold wX
    exact ⟨⟨fun pins s σ H Q I ⟨_, _, _, _, z, _⟩ => z.elim⟩, ⟨fun pins s σ H Q I ⟨_, _, _, _, z, _⟩ => z.elim⟩⟩
  | .sset fz a, x, c, h => by
    cases x with
    | Call fx es' ks pos =>
      unfold mE at h
      split at h
      · obtain ⟨h, h6⟩ := ands h
        obtain ⟨h, h5⟩ := ands h
        obtain ⟨h, h4⟩ := ands h
        obtain ⟨h, h3⟩ := ands h
        obtain ⟨h1, h2⟩ := ands h
        rw [beq_iff_eq] at h1 h2
        subst h1 h2
        intro g X ex S0 H0 gd
        unfold wX
        exact s_val gd (s_sset gd h3 h4 h5 (sE a _ c h6 g X ex S0 H0 gd).1) fun _ => rfl
      · cases h
    | _ => unfold mE at h; cases h
  | .repl fz es b, x, c, h => by
    cases x with
    | BinOp a' op b' pos =>
      unfold mE at h
      split at h
      · obtain ⟨h1, h2⟩ := ands h
        intro g X ex S0 H0 gd
        unfold wX
        obtain ⟨a1, a2⟩ := sEs es _ c h1
        exact s_val gd (s_repl gd (a2 g X ex S0 H0 gd).1 (sE b b' c h2 g X ex S0 H0 gd).1) fun _ => rfl
      · cases h
    | _ => unfold mE at h; cases h
  | .dct fz ps, x, c, h => by
    cases x with
    | Dict ks' vs' pos =>
      unfold mE at h
      obtain ⟨h1, h2⟩ := ands h
      intro g X ex S0 H0 gd
      unfold wX
      obtain ⟨a1, a2, a3⟩ := sPs ps ks' vs' c h1
      exact s_val gd (s_dct gd (a3 g X ex S0 H0 gd pos).1 a1 a2 (of_decide_eq_true h2) (a3 g X ex S0 H0 gd pos).2) fun _ => rfl
    | _ => unfold mE at h; cases h
  | .dc fz kx vx tg it ifs, x, c, h => by
    cases x with
    | DictComp kx' vx' gs scope pos =>
      intro g X ex S0 H0 gd
      have q := (dc_sound h (fun x c h => sE kx x c h) (fun x c h => sE vx x c h) (fun x tg c h => sI it x tg c h) (fun x c h => sQ ifs x c h) g X ex S0 H0 gd).1
      unfold wX at q ⊢
      exact s_val gd q fun _ => rfl
    | _ => unfold mE at h; cases h
  | .rngT es, x, c, h => by
    cases x with
    | Call fx es' ks pos =>
      unfold mE at h
      split at h
      · obtain ⟨h, h6⟩ := ands h
        obtain ⟨h, h5⟩ := ands h
        obtain ⟨h, h4⟩ := ands h
        obtain ⟨h, h3⟩ := ands h
        obtain ⟨h1, h2⟩ := ands h
        rw [beq_iff_eq] at h1 h2
        subst h1 h2
        intro g X ex S0 H0 gd
        unfold wX
        obtain ⟨a1, a2⟩ := sEs es _ c h5
        exact s_val gd (s_rngT gd h3 h4 (a2 g X ex S0 H0 gd).1 a1 (fun z => by rw [z] at h6; cases h6)) fun _ => rfl
      · cases h
    | _ => unfold mE at h; cases h
  | .rev fz a, x, c, h => by
    cases x with
    | Subscript a' i' pos =>
      unfold mE at h
      split at h
      · obtain ⟨h1, h2⟩ := ands h
        rw [beq_iff_eq] at h1
        subst h1
        intro g X ex S0 H0 gd
        unfold wX
        exact s_val gd (s_rev gd (sE a a' c h2 g X ex S0 H0 gd).1) fun _ => rfl
      · cases h
    | _ => unfold mE at h; cases h
  | .ssc fz elt tg it ifs, x, c, h => by
    cases x with
    | Call fx es' ks pos =>
      intro g X ex S0 H0 gd
      have q := ssc_sound h (fun x c h => sE elt x c h) (fun x tg c h => sI it x tg c h) (fun x c h => sQ ifs x c h) g X ex S0 H0 gd
      unfold wX at q ⊢
      exact s_val gd q fun _ => rfl
    | _ => unfold mE at h; cases h
theorem sPs : ∀ (ps : Ep) (ks : List (Option Expr)) (vs : List Expr) (c : Sc), mPs c ps ks vs = true → ks.all (·.isSome) = true ∧ ks.length = vs.length ∧
    ∀ g X ex S0 H0, Good T k g X c ex S0 H0 → ∀ pos, PPr X pos ks vs (RPs g S0 H0 (wPs T ps ex)) ∧ (ks = [] → wPs T ps ex = fun _ S Q => Q [] S)
  | .nil, ks, vs, c, h => by
    cases ks with
    | cons _ _ => unfold mPs at h; cases h
    | nil =>
      cases vs with
      | cons _ _ => unfold mPs at h; cases h
      | nil =>
        refine ⟨rfl, rfl, fun g X ex S0 H0 gd pos => ⟨?_, fun _ => by funext ρ S Q; unfold wPs; rfl⟩⟩
        obtain ⟨trs, h1, h2⟩ := s_pnil (X := X) (g := g) (S0 := S0) (H0 := H0) (pos := pos)
        exact ⟨trs, h1, fun σ H Q ⟨ρ, S, Qd, r, hh, kk⟩ => h2 σ H Q ⟨ρ, S, Qd, r, (by unfold wPs at hh; exact hh), kk⟩⟩
  | .cons k0 v0 r0, ks, vs, c, h => by
    cases ks with
    | nil => unfold mPs at h; cases h
    | cons k' ks =>
      cases k' with
      | none => unfold mPs at h; cases h
      | some k' =>
        cases vs with
        | nil => unfold mPs at h; cases h
        | cons v' vs =>
          unfold mPs at h
          obtain ⟨h, h3⟩ := ands h
          obtain ⟨h1, h2⟩ := ands h
          obtain ⟨a1, a2, a3⟩ := sPs r0 ks vs c h3
          refine ⟨by rw [List.all_cons, a1]; rfl, by rw [List.length_cons, List.length_cons, a2], fun g X ex S0 H0 gd pos => ⟨?_, fun z => by cases z⟩⟩
          obtain ⟨trs, q1, q2⟩ := s_pcons (sE k0 k' c h1 g X ex S0 H0 gd).1 (sE v0 v' c h2 g X ex S0 H0 gd).1 (a3 g X ex S0 H0 gd pos).1
          exact ⟨trs, q1, fun σ H Q ⟨ρ, S, Qd, r, hh, kk⟩ => q2 σ H Q ⟨ρ, S, Qd, r, (by unfold wPs at hh; exact hh), kk⟩⟩
theorem sKs : ∀ (es : Es) (ks : List Str) (kws : List Keyword) (c : Sc), mKs c es ks kws = true → kwIs ks kws ∧ ∀ g X ex S0 H0, Good T k g X c ex S0 H0 → PK X kws (RA g S0 H0 (wEs T es ex))
  | .nil, ks, kws, c, h => by
    cases ks with
    | cons _ _ => unfold mKs at h; cases h
    | nil =>
      cases kws with
      | cons _ _ => unfold mKs at h; cases h
      | nil => exact ⟨trivial, fun g X ex S0 H0 gd => ⟨fun p pins s σ H Q I ⟨ρ, S, Qd, r, hh, kk⟩ => s_kw0.run p pins s σ H Q I ⟨ρ, S, Qd, r, (by unfold wEs at hh; exact hh), kk⟩⟩⟩
  | .cons e r, ks, kws, c, h => by
    cases ks with
    | nil => unfold mKs at h; cases h
    | cons k0 ks =>
      cases kws with
      | nil => unfold mKs at h; cases h
      | cons kw kws =>
        obtain ⟨nm, x, kp⟩ := kw
        unfold mKs at h
        obtain ⟨h, h3⟩ := ands h
        obtain ⟨h1, h2⟩ := ands h
        obtain ⟨a1, a2⟩ := sKs r ks kws c h3
        refine ⟨⟨by simpa using h1, a1⟩, fun g X ex S0 H0 gd => ⟨fun p pins s σ H Q I ⟨ρ, S, Qd, r', hh, kk⟩ => (s_kw (sE e x c h2 g X ex S0 H0 gd).1 (a2 g X ex S0 H0 gd)).run p pins s σ H Q I ⟨ρ, S, Qd, r', ?_, kk⟩⟩⟩
        unfold wEs at hh
        exact hh
theorem sB : ∀ (op : BoolOp) (es : Es) (xs : List Expr) (c : Sc), mEs c es xs = true → SndB T k op es xs c
  | op, .nil, xs, c, h => by
    cases xs with
    | nil => exact fun ne => absurd rfl ne
    | cons x xs => unfold mEs at h; cases h
  | op, .cons a r, xs, c, h => by
    cases xs with
    | nil => unfold mEs at h; cases h
    | cons x xs =>
      unfold mEs at h
      obtain ⟨h, h3⟩ := ands h
      obtain ⟨h1, h2⟩ := ands h
      intro _ g X ex S0 H0 gd pos
      have qa := sE a x c h2 g X ex S0 H0 gd
      have qr := sB op r xs c h3
      unfold wB
      cases xs with
      | nil =>
        cases r with
        | cons _ _ => unfold mEs at h3; cases h3
        | nil =>
          refine ⟨(pe_one qa.1).imp fun σ H Q q => q, ?_⟩
          cases op with
          | And =>
            refine (pw_and1 qa.2).imp fun σ H Q q => ?_
            obtain ⟨ρ, S, Qd, r', h, kk⟩ := q
            refine ⟨ρ, S, _, r', h, fun b S1 H1 rs1 st1 q1 => ?_⟩
            cases b <;> exact kk _ S1 H1 rs1 st1 q1
          | Or =>
            refine (pw_or1 qa.2).imp fun σ H Q q => ?_
            obtain ⟨ρ, S, Qd, r', h, kk⟩ := q
            refine ⟨ρ, S, _, r', h, fun b S1 H1 rs1 st1 q1 => ?_⟩
            cases b <;> exact kk _ S1 H1 rs1 st1 q1
      | cons y ys =>
        cases r with
        | nil => unfold mEs at h3; cases h3
        | cons b r =>
          have qr := qr (by simp) g X ex S0 H0 gd pos
          cases op with
          | And =>
            refine ⟨(pe_andT qa.1 qr.1).imp fun σ H Q q => ?_, (pw_and qa.2 qr.2).imp fun σ H Q q => ?_⟩
            · obtain ⟨ρ, S, Qd, r', h, kk⟩ := q
              refine ⟨ρ, S, _, r', h, fun v d S1 H1 rd1 rs1 st1 ⟨bb, hb, q1⟩ => ⟨bb, gd.gK ▸ tru_V rs1 rd1 hb, ?_⟩⟩
              cases bb with
              | true => exact ⟨ρ, S1, Qd, r'.step rs1 st1, q1, kk.from st1⟩
              | false => exact (kk.from st1).here rs1 rd1 q1
            · obtain ⟨ρ, S, Qd, r', h, kk⟩ := q
              refine ⟨ρ, S, _, r', h, fun bb S1 H1 rs1 st1 q1 => ?_⟩
              cases bb with
              | true => exact ⟨ρ, S1, Qd, r'.step rs1 st1, q1, kk.from st1⟩
              | false => exact kk _ S1 H1 rs1 st1 q1
          | Or =>
            refine ⟨(pe_orT qa.1 qr.1).imp fun σ H Q q => ?_, (pw_or qa.2 qr.2).imp fun σ H Q q => ?_⟩
            · obtain ⟨ρ, S, Qd, r', h, kk⟩ := q
              refine ⟨ρ, S, _, r', h, fun v d S1 H1 rd1 rs1 st1 ⟨bb, hb, q1⟩ => ⟨bb, gd.gK ▸ tru_V rs1 rd1 hb, ?_⟩⟩
              cases bb with
              | false => exact ⟨ρ, S1, Qd, r'.step rs1 st1, q1, kk.from st1⟩
              | true => exact (kk.from st1).here rs1 rd1 q1
            · obtain ⟨ρ, S, Qd, r', h, kk⟩ := q
              refine ⟨ρ, S, _, r', h, fun bb S1 H1 rs1 st1 q1 => ?_⟩
              cases bb with
              | false => exact ⟨ρ, S1, Qd, r'.step rs1 st1, q1, kk.from st1⟩
              | true => exact kk _ S1 H1 rs1 st1 q1
theorem sEs : ∀ (es : Es) (xs : List Expr) (c : Sc), mEs c es xs = true → SndS T k es xs c
  | .nil, xs, c, h => by
    cases xs with
    | nil => exact ⟨rfl, fun g X ex S0 H0 gd => ⟨s_nil.imp fun σ H Q ⟨ρ, S, Qd, r, hh, kk⟩ => ⟨ρ, S, Qd, r, (by unfold wEs at hh; exact hh), kk⟩, fun _ => by funext ρ S Q; unfold wEs; rfl⟩⟩
    | cons x xs => unfold mEs at h; cases h
  | .cons e r, xs, c, h => by
    cases xs with
    | nil => unfold mEs at h; cases h
    | cons x xs =>
      unfold mEs at h
      obtain ⟨h, h3⟩ := ands h
      obtain ⟨h1, h2⟩ := ands h
      obtain ⟨a1, a2⟩ := sEs r xs c h3
      refine ⟨by rw [List.all_cons, h1, a1]; rfl, fun g X ex S0 H0 gd => ⟨?_, fun z => by cases z⟩⟩
      have q := s_cons (sE e x c h2 g X ex S0 H0 gd).1 (a2 g X ex S0 H0 gd).1 h1
      exact q.imp fun σ H Q z => by
        obtain ⟨ρ, S, Qd, r', hh, kk⟩ := z
        unfold wEs at hh
        exact ⟨ρ, S, Qd, r', hh, kk⟩
theorem sQ : ∀ (e : Eo) (x : Expr) (c : Sc), mQ c e x = true → SndQ T k e x c
  | .no, x, c, h => by unfold mQ at h; cases h
  | .yes e, x, c, h => by
    unfold mQ at h
    intro g X ex S0 H0 gd
    exact (sE e x c h g X ex S0 H0 gd).2.imp fun σ H Q ⟨ρ, S, Qd, r, hh, kk⟩ => ⟨ρ, S, Qd, r, (by unfold wTo at hh; exact hh), kk⟩
theorem sO : ∀ (e : Eo) (x : Option Expr) (c : Sc), mO c e x = true → SndO T k e x c
  | .no, x, c, h => by
    cases x with
    | none => intro g X ex S0 H0 gd; exact s_nopart.imp fun σ H Q ⟨ρ, S, Qd, r, hh, kk⟩ => ⟨ρ, S, Qd, r, by unfold wO at hh; exact hh, kk⟩
    | some x => unfold mO at h; cases h
  | .yes e, x, c, h => by
    cases x with
    | none => unfold mO at h; cases h
    | some x =>
      unfold mO at h
      intro g X ex S0 H0 gd
      exact (s_part (sE e x c h g X ex S0 H0 gd).1).imp fun σ H Q ⟨ρ, S, Qd, r, hh, kk⟩ => ⟨ρ, S, Qd, r, by unfold wO at hh; exact hh, kk⟩
theorem sI : ∀ (it : It) (x tg : Expr) (c : Sc), mI c it x tg = true → SndI T k it x tg c
  | .seq e, x, tg, c, h => by
    unfold mI at h
    intro g X ex S0 H0 gd
    exact (s_seq gd (sE e x c h g X ex S0 H0 gd).1).imp fun σ H R ⟨ρ, S, Qi, r, hh, kk⟩ => ⟨ρ, S, Qi, r, by unfold wI at hh; exact hh, kk⟩
  | .range .nil, x, tg, c, h => by
    unfold mI at h
    split at h
    · rename_i yy p1 es' p2
      obtain ⟨h, h5⟩ := ands h
      obtain ⟨h, h4⟩ := ands h
      obtain ⟨h, h3⟩ := ands h
      cases es' with
      | nil => cases h4
      | cons _ _ => unfold mEs at h3; cases h3
    · cases h
  | .range (.cons a .nil), x, tg, c, h => by
    unfold mI at h
    split at h
    · rename_i yy p1 es' p2
      obtain ⟨h, h5⟩ := ands h
      obtain ⟨h, h4⟩ := ands h
      obtain ⟨h, h3⟩ := ands h
      obtain ⟨h1, h2⟩ := ands h
      rw [beq_iff_eq] at h1
      subst h1
      cases es' with
      | nil => cases h4
      | cons x1 es' =>
        cases es' with
        | cons _ _ => unfold mEs at h3; obtain ⟨_, h3⟩ := ands h3; unfold mEs at h3; cases h3
        | nil =>
          unfold mEs at h3
          obtain ⟨h3, _⟩ := ands h3
          obtain ⟨h6, h7⟩ := ands h3
          intro g X ex S0 H0 gd
          exact (s_range1 gd (sE a _ c h7 g X ex S0 H0 gd).1 h2 h6).imp fun σ H R ⟨ρ, S, Qi, r, hh, kk⟩ => ⟨ρ, S, Qi, r, by unfold wI wEs wEs at hh; exact hh, kk⟩
    · cases h
  | .range (.cons a (.cons b .nil)), x, tg, c, h => by
    unfold mI at h
    split at h
    · rename_i yy p1 es' p2
      obtain ⟨h, h5⟩ := ands h
      obtain ⟨h, h4⟩ := ands h
      obtain ⟨h, h3⟩ := ands h
      obtain ⟨h1, h2⟩ := ands h
      rw [beq_iff_eq] at h1
      subst h1
      cases es' with
      | nil => cases h4
      | cons x1 es' =>
        cases es' with
        | nil => unfold mEs at h3; obtain ⟨_, h3⟩ := ands h3; unfold mEs at h3; cases h3
        | cons x2 es' =>
          cases es' with
          | cons _ _ => unfold mEs at h3; obtain ⟨_, h3⟩ := ands h3; unfold mEs at h3; obtain ⟨_, h3⟩ := ands h3; unfold mEs at h3; cases h3
          | nil =>
            unfold mEs at h3
            obtain ⟨h3, h8⟩ := ands h3
            obtain ⟨h6, h7⟩ := ands h3
            unfold mEs at h8
            obtain ⟨h8, _⟩ := ands h8
            obtain ⟨h9, h10⟩ := ands h8
            intro g X ex S0 H0 gd
            exact (s_range2 gd (sE a _ c h7 g X ex S0 H0 gd).1 (sE b _ c h10 g X ex S0 H0 gd).1 h2 h6 h9).imp fun σ H R ⟨ρ, S, Qi, r, hh, kk⟩ => ⟨ρ, S, Qi, r, by unfold wI wEs wEs wEs at hh; exact hh, kk⟩
    · cases h
  | .range (.cons a (.cons b (.cons d .nil))), x, tg, c, h => by
    unfold mI at h
    split at h
    · rename_i yy p1 es' p2
      obtain ⟨h, h5⟩ := ands h
      obtain ⟨h, h4⟩ := ands h
      obtain ⟨h, h3⟩ := ands h
      obtain ⟨h1, h2⟩ := ands h
      rw [beq_iff_eq] at h1
      subst h1
      cases es' with
      | nil => cases h4
      | cons x1 es' =>
        unfold mEs at h3
        obtain ⟨h3, h8⟩ := ands h3
        obtain ⟨h6, h7⟩ := ands h3
        cases es' with
        | nil => unfold mEs at h8; cases h8
        | cons x2 es' =>
          unfold mEs at h8
          obtain ⟨h8, h11⟩ := ands h8
          obtain ⟨h9, h10⟩ := ands h8
          cases es' with
          | nil => unfold mEs at h11; cases h11
          | cons x3 es' =>
            unfold mEs at h11
            obtain ⟨h11, h14⟩ := ands h11
            obtain ⟨h12, h13⟩ := ands h11
            cases es' with
            | cons _ _ => unfold mEs at h14; cases h14
            | nil =>
              intro g X ex S0 H0 gd
              exact (s_range3 gd (sE a _ c h7 g X ex S0 H0 gd).1 (sE b _ c h10 g X ex S0 H0 gd).1 (sE d _ c h13 g X ex S0 H0 gd).1 h2 h6 h9 h12).imp fun σ H R ⟨ρ, S, Qi, r, hh, kk⟩ => ⟨ρ, S, Qi, r, by unfold wI wEs wEs wEs wEs at hh; exact hh, kk⟩
    · cases h
  | .range (.cons a (.cons b (.cons d (.cons f r)))), x, tg, c, h => by
    unfold mI at h
    split at h
    · rename_i yy p1 es' p2
      obtain ⟨h, h5⟩ := ands h
      obtain ⟨h, h4⟩ := ands h
      obtain ⟨h, h3⟩ := ands h
      exfalso
      have hl := of_decide_eq_true h5
      match es', h3, hl with
      | [], h3, _ => unfold mEs at h3; cases h3
      | [_], h3, _ => unfold mEs at h3; obtain ⟨_, h3⟩ := ands h3; unfold mEs at h3; cases h3
      | [_, _], h3, _ => unfold mEs at h3; obtain ⟨_, h3⟩ := ands h3; unfold mEs at h3; obtain ⟨_, h3⟩ := ands h3; unfold mEs at h3; cases h3
      | [_, _, _], h3, _ => unfold mEs at h3; obtain ⟨_, h3⟩ := ands h3; unfold mEs at h3; obtain ⟨_, h3⟩ := ands h3; unfold mEs at h3; obtain ⟨_, h3⟩ := ands h3; unfold mEs at h3; cases h3
      | _ :: _ :: _ :: _ :: _, _, hl => simp only [List.length_cons] at hl; omega
    · cases h
  | .enum e, x, tg, c, h => by
    unfold mI at h
    split at h
    · obtain ⟨h, h4⟩ := ands h
      obtain ⟨h, h3⟩ := ands h
      obtain ⟨h1, h2⟩ := ands h
      rw [beq_iff_eq] at h1
      subst h1
      intro g X ex S0 H0 gd
      exact (s_enum gd (sE e _ c h4 g X ex S0 H0 gd).1 h2 h3).imp fun σ H R ⟨ρ, S, Qi, r, hh, kk⟩ => ⟨ρ, S, Qi, r, by unfold wI at hh; exact hh, kk⟩
    · cases h
  | .zip p q, x, tg, c, h => by
    unfold mI at h
    split at h
    · obtain ⟨h, h6⟩ := ands h
      obtain ⟨h, h5⟩ := ands h
      obtain ⟨h, h4⟩ := ands h
      obtain ⟨h, h3⟩ := ands h
      obtain ⟨h1, h2⟩ := ands h
      rw [beq_iff_eq] at h1
      subst h1
      intro g X ex S0 H0 gd
      exact (s_zip gd (sE p _ c h5 g X ex S0 H0 gd).1 (sE q _ c h6 g X ex S0 H0 gd).1 h2 h3 h4).imp fun σ H R ⟨ρ, S, Qi, r, hh, kk⟩ => ⟨ρ, S, Qi, r, by unfold wI at hh; exact hh, kk⟩
    · cases h
end
end
end G
/-! G13: statements. -/
namespace G
open PySem L2
/-! ### which stores are swapped -/
def swN (c : Sc) (s : Scope) (p : Pos) : Expr → Bool
  | .Name t pos => c.kd t == some .local && pos.line == p.line && !(s.names.any fun (n, k) => n == t && (k == .local || k == .cell))
  | _ => false
def swB (c : Sc) : Expr → Expr → Bool
  | .ListComp _ _ s p, t => swN c s p t
  | .SetComp _ _ s p, t => swN c s p t
  | .DictComp _ _ _ s p, t => swN c s p t
  | _, _ => false
def noComp : Expr → Bool
  | .ListComp _ _ _ _ => false
  | .SetComp _ _ _ _ => false
  | .DictComp _ _ _ _ _ => false
  | _ => true
def isStar : Expr → Bool
  | .Starred .. => true
  | _ => false
def parNames (c : Sc) (ts : List Expr) : List Str := ts.filterMap fun
  | .Name id pos => if c.kd id == some .local && pos.line == (ts.head?.map (·.pos.line)).getD 0 then some id else none
  | _ => none
def swNone (c : Sc) (ts vs : List Expr) : Bool :=
  (!(ts.length == 2 || ts.length == 3) || vs.length != ts.length) || (vs.any isStar) || ((parNames c ts).length != ts.length || (parNames c ts).eraseDups.length != (parNames c ts).length) || vs.all (foldedForSure 8)
def stN (c : Sc) : Expr → Expr → Bool
  | .Tuple ts _ _, .Tuple vs _ _ => swNone c ts vs
  | .List _ _, .Tuple _ _ _ => false
  | _, _ => true
section
variable {X : Cx} {c : Sc}
theorem block_fn {env : Env} (hk : env.scope.kind = .function) : env.blockKind = .function := by unfold Env.blockKind; rw [hk]; rfl
theorem sw_ok (hk : c.sc.kind = .function) (hs : X.env.scope = c.sc) {v t : Expr} {l : Nat} : swapsWith v (some t) l X.env = pure (swB c v t) := by
  have hb : X.env.blockKind = .function := block_fn (by rw [hs]; exact hk)
  have hn : ∀ x, X.env.kindOf x = c.kd x := fun x => by show List.lookup x X.env.scope.names = _; rw [hs]; rfl
  cases v <;> first | rfl | (cases t <;> first | rfl | (unfold swapsWith; simp only [hb, hn, swB, swN, Expr.pos]; rfl))
def swSome (c : Sc) (ts vs : List Expr) : Bool := !swNone c ts vs && !vs.all (constantsAlone 8)
theorem st_pair (hk : c.sc.kind = .function) (hs : X.env.scope = c.sc) {ts vs : List Expr} {n1 n2 : Nat} {p1 p2 : Pos} : swappedStores [.Tuple ts n1 p1] (.Tuple vs n2 p2) X.env =
    (if (!(ts.length == 2 || ts.length == 3) || vs.length != ts.length) = true then pure none else if (vs.any isStar) = true then pure none else
      if ((parNames c ts).length != ts.length || (parNames c ts).eraseDups.length != (parNames c ts).length) = true then pure none else if vs.all (foldedForSure 8) = true then pure none else
        if vs.all (constantsAlone 8) = true then (do unsupported "assign.tuple-of-constant-expressions:order-of-the-stores"; pure (some (parNames c ts))) else pure (some (parNames c ts))) := by
  have hb : X.env.blockKind = .function := block_fn (by rw [hs]; exact hk)
  have hn : ∀ x, X.env.kindOf x = c.kd x := fun x => by show List.lookup x X.env.scope.names = _; rw [hs]; rfl
  unfold swappedStores
  simp only [hb, hn]
  show (if (!(ts.length == 2 || ts.length == 3) || vs.length != ts.length || false) = true then _ else if (vs.any isStar) = true then _ else if ((parNames c ts).length != ts.length || (parNames c ts).eraseDups.length != (parNames c ts).length) = true then _ else _) = _
  rw [Bool.or_false]
  rfl
theorem st_none (hk : c.sc.kind = .function) (hs : X.env.scope = c.sc) {v t : Expr} (h : stN c t v = true) : swappedStores [t] v X.env = pure none := by
  unfold stN at h
  split at h
  · rename_i ts n1 p1 vs n2 p2
    rw [st_pair hk hs]
    unfold swNone at h
    split
    · rfl
    · split
      · rfl
      · split
        · rfl
        · split
          · rfl
          · exfalso
            simp_all
  · cases h
  · rename_i h1 h2
    cases t <;> first | rfl | (cases v <;> first | rfl | exact (h1 _ _ _ _ _ _ rfl rfl).elim | exact (h2 _ _ _ _ _ rfl rfl).elim)
theorem st_some (hk : c.sc.kind = .function) (hs : X.env.scope = c.sc) {ts vs : List Expr} {n1 n2 : Nat} {p1 p2 : Pos} (h : swSome c ts vs = true) : swappedStores [.Tuple ts n1 p1] (.Tuple vs n2 p2) X.env = pure (some (parNames c ts)) := by
  rw [st_pair hk hs]
  unfold swSome swNone at h
  split
  · exfalso; simp_all
  · split
    · exfalso; simp_all
    · split
      · exfalso; simp_all
      · split
        · exfalso; simp_all
        · split
          · exfalso; simp_all
          · rfl
end
/-! ### the match -/
mutual
def mL (c : Sc) : Lh → Expr → Bool
  | .name i, .Name x _ => c.N[i]? == some x && (match c.kd x with | some .local => true | some .cell => c.fn x | _ => false)
  | .tup r, .Tuple es _ _ => mLs c r es
  | .attr o f, .Attribute o' x _ => f == x && mE c o o'
  | .sub o i, .Subscript o' i' _ => mE c o o' && mE c i i' && plainSlice i'
  | _, _ => false
def mLs (c : Sc) : Lhs → List Expr → Bool
  | .nil, [] => true
  | .cons t r, e :: es => noStar e && mL c t e && mLs c r es
  | _, _ => false
end
def isName : Lh → Bool
  | .name _ => true
  | _ => false
def isLc : Expr → Bool
  | .ListComp .. => true
  | .DictComp .. => true
  | _ => false
def asgB (c : Sc) (t : Lh) (e : E) : List Expr → Expr → Bool
  | [tg], x => mL c t tg && mE c e x && (!swB c x tg && stN c tg x || swB c x tg && isName t && isLc x)
  | _, _ => false
def parB2 (c : Sc) (i j : Nat) (a b : E) : List Expr → List Expr → Bool
  | [.Name x px, .Name y py], [a', b'] => c.N[i]? == some x && c.N[j]? == some y && !(i == j) && c.kd x == some .local && c.kd y == some .local && mE c a a' && mE c b b' && noStar a' && noStar b' &&
      swSome c [.Name x px, .Name y py] [a', b'] && parNames c [.Name x px, .Name y py] == [x, y]
  | _, _ => false
def parB1 (c : Sc) (i j : Nat) (a b : E) : Expr → Expr → Bool
  | .Tuple ts _ _, .Tuple vs _ _ => parB2 c i j a b ts vs
  | _, _ => false
def parB (c : Sc) (i j : Nat) (a b : E) : List Expr → Expr → Bool
  | [tg], x => parB1 c i j a b tg x
  | _, _ => false
mutual
def mS (c : Sc) : St → Stmt → Bool
  | .expr e, .Expr x _ => mE c e x && noComp x
  | .ret e, .Return (some x) _ => mE c e x
  | .retN, .Return none _ => true
  | .pass, .Pass _ => true
  | .brk, .Break _ => true
  | .cont, .Continue _ => true
  | .asg t e, .Assign tgs x _ => asgB c t e tgs x
  | .par i j a b, .Assign tgs x _ => parB c i j a b tgs x
  | .ife t a b, .If t' a' b' _ => mE c t t' && mSs c a a' && mSs c b b'
  | .for t it b, .For t' it' b' [] _ => mI c it it' t' && noSet it' && mG c t t' && mSs c b b'
  | .bad, _ => true
  | .whl t b, .While t' b' [] _ => mE c t t' && mSs c b b'
  | _, _ => false
def mSs (c : Sc) : Ss → List Stmt → Bool
  | .nil, [] => true
  | .cons s r, x :: xs => mS c s x && mSs c r xs
  | _, _ => false
end
/-! ### places to store in -/
theorem pg_attr {X : Cx} {o : Expr} {f : Str} {pos : Pos} {to : TE} (ho : PE X o to) : PG X (.Attribute o f pos) (fun v σ H Q => to σ H fun x H1 => ∃ a C dx fs, x = .ref a ∧ H1 a = some (.ins C dx fs) ∧ Cls X.K C ∧ NoAttr X.K C f ∧ fs.length < 1000 ∧ Q σ (upd H1 a (.ins C dx (putF f v fs)))) := by
  refine ⟨fun pins s σ H v u Q I r h => ?_⟩
  show wpAny _ X.A (do let ov ← holding [u] (eval o X.env); standAt pos.atName; holding [u, ov] (setAttr ov f u); release [u, ov] []) _ _ s
  refine wpAny_bind (wpAny_holding (thn (ho.run pins s σ H _ I h) fun ov s1 ⟨x, H1, I1, r1, q1⟩ => ?_))
  obtain ⟨a, C, dx, fs, rfl, ea, cl, na, l, q⟩ := q1
  cases r1
  exact wpAny_bind (wpAny_standAt (wpAny_bind (wpAny_holding (setattr_ok I1 ea cl na l r fun s3 I3 => wpAny_release ⟨σ, _, I3, q⟩))))
def RLd (g : Gx) (S0 : Sto) (H0 : Hp) (w : D → Sl → Sto → (Sl → Sto → Prop) → Prop) : TG := fun v σ H Q => ∃ d ρ S Qd, RD g S H d v ∧ Rl g S0 H0 ρ S σ H ∧ w d ρ S Qd ∧ ∀ ρ' S' σ' H', Rl g S0 H0 ρ' S' σ' H' → Step S H S' H' → Qd ρ' S' → Q σ' H'
def RLs (g : Gx) (S0 : Sto) (H0 : Hp) (w : List D → Sl → Sto → (Sl → Sto → Prop) → Prop) : TGs := fun us σ H Q => ∃ ds ρ S Qd, RDs g S H ds us ∧ Rl g S0 H0 ρ S σ H ∧ w ds ρ S Qd ∧ ∀ ρ' S' σ' H', Rl g S0 H0 ρ' S' σ' H' → Step S H S' H' → Qd ρ' S' → Q σ' H'
section
variable {T : Tab} {k : Nat} {g : Gx} {X : Cx} {c : Sc} {ex : QX} {S0 : Sto} {H0 : Hp}
theorem RFs.put {S : Sto} {H : Hp} {f : Str} {d : D} {v : V} (rd : RD g S H d v) : ∀ {fs : List (Str × D)} {gs : List (Str × V)}, RFs g S H fs gs → RFs g S H (putD f d fs) (putF f v gs)
  | [], gs, h => by unfold RFs at h; subst h; unfold putD; exact ⟨v, [], rfl, rd, rfl⟩
  | (x, y) :: fs, gs, h => by
    unfold RFs at h
    obtain ⟨u, r, rfl, h1, h2⟩ := h
    unfold putD putF
    by_cases hx : x = f
    · rw [if_pos hx, if_pos hx]; exact ⟨v, r, rfl, rd, h2⟩
    · rw [if_neg hx, if_neg hx]; exact ⟨u, _, rfl, h1, RFs.put rd h2⟩
theorem RFs.length {S : Sto} {H : Hp} : ∀ {fs : List (Str × D)} {gs : List (Str × V)}, RFs g S H fs gs → fs.length = gs.length
  | [], gs, h => by unfold RFs at h; subst h; rfl
  | (x, y) :: fs, gs, h => by
    unfold RFs at h
    obtain ⟨u, r, rfl, h1, h2⟩ := h
    simp [RFs.length h2]
theorem mLs_star : ∀ {ts : Lhs} {es : List Expr}, mLs c ts es = true → es.all noStar = true
  | .nil, [], _ => rfl
  | .cons t r, e :: es, h => by
    unfold mLs at h
    rw [Bool.and_eq_true, Bool.and_eq_true] at h
    rw [List.all_cons, h.1.1, mLs_star h.2]; rfl
  | .nil, _ :: _, h => by unfold mLs at h; cases h
  | .cons _ _, [], h => by unfold mLs at h; cases h
theorem mLs_len : ∀ {ts : Lhs} {es : List Expr}, mLs c ts es = true → es.length = lhsLen ts
  | .nil, [], _ => rfl
  | .cons t r, e :: es, h => by
    unfold mLs at h
    rw [Bool.and_eq_true, Bool.and_eq_true] at h
    show es.length + 1 = lhsLen r + 1
    rw [mLs_len h.2]
  | .nil, _ :: _, h => by unfold mLs at h; cases h
  | .cons _ _, [], h => by unfold mLs at h; cases h
/-- something is put into a list or a dict, by data -/
def RPt (g : Gx) : V → V → V → Hp → (Hp → Prop) → Prop := fun x y v H Q => ∃ d1 d2 d S Qd, RD g S H d1 x ∧ RD g S H d2 y ∧ RD g S H d v ∧ RS g S H ∧ putS S d1 d2 d Qd ∧ ∀ S' H', RS g S' H' → Step S H S' H' → Qd S' → Q H'
theorem set_any {X : Cx} {g : Gx} (hK : X.K = g.K) (hu : X.A.units + 1 < cLine) : PSet X (RPt g) := by
  intro pins s σ H x y v ov iv u Q I rx ry rv ⟨d1, d2, d, S, Qd, r1, r2, rd, rs, h, kk⟩
  unfold putS at h
  split at h
  · rename_i a
    split at h
    · rename_i xs es
      obtain ⟨n, j, rfl, hj, q⟩ := h
      obtain ⟨us, hu', ru⟩ := (rs.1 _ _ es).2
      have pt := rs.put es hu' (ru.set j rd)
      exact set_list pins s σ H x y v ov iv u Q I rx ry rv ⟨a, us, n, j, r1.ofObj, r2.ofInt, hu', by rw [← ru.length]; exact hj, kk _ _ pt.1 pt.2 q⟩
    · rename_i kvs es
      obtain ⟨hk, hl, q⟩ := h
      obtain ⟨key, hq⟩ := Option.isSome_iff_exists.mp hk
      obtain ⟨gs, hg, rg⟩ := (rs.1 _ _ es).2
      have pt := put_dct rs es hg (putKD_put hq rd rg)
      rw [r1.ofObj] at rx
      obtain rfl : ov = Value.ref a := rx
      have ey := key_rd r2 hq
      subst ey
      exact d_setItem hu I (DPut.k hg (by rw [← rg.length]; exact lim_size' hl)) ry rv fun s' I' => ⟨_, I', kk _ _ pt.1 pt.2 q⟩
    · exact h.elim
  · exact h.elim
mutual
theorem sL (gd : Good T k g X c ex S0 H0) : ∀ (t : Lh) (x : Expr), mL c t x = true → PG X x (RLd g S0 H0 (wL T ex t))
  | .name i, x, h => by
    cases x with
    | Name x pos =>
      unfold mL at h
      rw [Bool.and_eq_true, beq_iff_eq] at h
      obtain ⟨h1, h2⟩ := h
      have hk : List.lookup x X.env.scope.names = some .local ∨ (List.lookup x X.env.scope.names = some .cell ∧ X.fn x = true) := by
        rw [gd.sc, gd.fnk]
        show c.kd x = _ ∨ (c.kd x = _ ∧ _)
        cases e : c.kd x with
        | none => rw [e] at h2; cases h2
        | some kd =>
          rw [e] at h2
          cases kd <;> first | exact .inl rfl | exact .inr ⟨rfl, h2⟩ | cases h2
      refine (pg_name (i := i) gd.nd (by rw [gd.N]; exact h1) (hk.imp id (·.1)) (hk.elim .inr fun z => .inl z.2)).imp fun v σ H Q q => ?_
      obtain ⟨d, ρ, S, Qd, rd, r, hw, kk⟩ := q
      unfold wL at hw
      exact kk _ _ _ _ (r.set rd) (Step.refl S H) hw
    | _ => unfold mL at h; cases h
  | .tup ts, x, h => by
    cases x with
    | Tuple es n pos =>
      unfold mL at h
      have hs := mLs_star h
      have ih := sLs gd ts es h
      refine ⟨fun pins s σ H v u Q I ru q => ?_⟩
      obtain ⟨d, ρ, S, Qd, rd, r, hw, kk⟩ := q
      unfold wL at hw
      obtain ⟨xs, e, hlen, hw⟩ := hw
      obtain ⟨p, us, rfl, sq, rds⟩ := rd.seq r.rs e
      have hl : us.length = es.length := by rw [← rds.length, mLs_len h]; exact hlen
      rcases sq with sq | sq
      · exact (pg_unl (n := es.length) gd.calm ih asg_len (asg_star hs)).run pins s σ H _ u Q I ru ⟨p, us, rfl, gd.gK ▸ sq, hl, xs, ρ, S, Qd, rds, r, hw, kk⟩
      · exact (pg_tup (n := es.length) gd.calm ih asg_len (asg_star hs)).run pins s σ H _ u Q I ru ⟨p, us, rfl, gd.gK ▸ sq, hl, xs, ρ, S, Qd, rds, r, hw, kk⟩
    | _ => unfold mL at h; cases h
  | .attr o f, x, h => by
    cases x with
    | Attribute o' y pos =>
      unfold mL at h
      obtain ⟨h1, h2⟩ := ands h
      rw [beq_iff_eq] at h1
      subst h1
      refine (pg_attr (sE o o' c h2 g X ex S0 H0 gd).1).imp fun v σ H Q q => ?_
      obtain ⟨d, ρ, S, Qd, rd, r, hw, kk⟩ := q
      unfold wL at hw
      refine ⟨ρ, S, _, r, hw, fun x d1 S1 H1 rd1 rs1 st1 q1 => ?_⟩
      obtain ⟨a, C, fs, rfl, es1, hf, hl, q1⟩ := q1
      obtain ⟨c', dx, gs, hm', q, sdx, hdx, rf⟩ := (rs1.1 _ _ es1).2
      obtain ⟨cc, hm, cl, na⟩ := gd.ge.fld C f hf
      rw [hm] at hm'
      obtain rfl : cc = c' := Value.ref.inj (Option.some.inj hm')
      have sn : S1 a ≠ none := by rw [es1]; exact fun z => nomatch z
      have nd : dx ≠ a := fun z => by rw [z, q] at hdx; cases hdx
      have st2 : Step S1 H1 (S1.set a (.ins C (putD f d fs))) (upd H1 a (.ins cc dx (putF f v gs))) := Step.write (.inl sn)
      have rs2 := rs1.write (.inl sn) st2 ⟨cc, dx, _, hm, upd_same, ⟨by rw [Sto.set_ne nd]; exact sdx.1, sdx.2⟩, by rw [upd_ne nd]; exact hdx, (RFs.put (rd.mono st1) rf).mono st2⟩ (fun b e => by rw [q] at e; cases e)
      refine ⟨a, cc, dx, gs, rd1.ofObj, q, gd.gK ▸ cl, gd.gK ▸ na, by rw [← RFs.length rf]; omega, kk _ _ _ _ ((r.step rs1 st1).step rs2 st2) (st1.trans st2) q1⟩
    | _ => unfold mL at h; cases h
  | .sub o i, x, h => by
    cases x with
    | Subscript o' i' pos =>
      unfold mL at h
      obtain ⟨h, h3⟩ := ands h
      obtain ⟨h1, h2⟩ := ands h
      refine (pg_sub (sE o o' c h1 g X ex S0 H0 gd).1 (sE i i' c h2 g X ex S0 H0 gd).1 (set_any gd.gK (by have := gd.room.un; omega)) (fun v => ?_)).imp fun v σ H Q q => ?_
      · cases i' <;> first | rfl | cases h3
      obtain ⟨d, ρ, S, Qd, rd, r, hw, kk⟩ := q
      unfold wL at hw
      refine ⟨ρ, S, _, r, hw, fun x d1 S1 H1 rd1 rs1 st1 q1 => ⟨ρ, S1, _, r.step rs1 st1, q1, fun y d2 S2 H2 rd2 rs2 st2 q2 => ?_⟩⟩
      refine ⟨d1, d2, d, S2, _, rd1.mono st2, rd2, (rd.mono st1).mono st2, rs2, q2, fun S3 H3 rs3 st3 q3 => ?_⟩
      exact kk _ _ _ _ (((r.step rs1 st1).step rs2 st2).step rs3 st3) ((st1.trans st2).trans st3) q3
    | _ => unfold mL at h; cases h
theorem sLs (gd : Good T k g X c ex S0 H0) : ∀ (ts : Lhs) (es : List Expr), mLs c ts es = true → PGs X es (RLs g S0 H0 (wLs T ex ts))
  | .nil, es, h => by
    cases es with
    | nil =>
      refine pgs_nil.imp fun us σ H Q q => ?_
      obtain ⟨ds, ρ, S, Qd, rds, r, hw, kk⟩ := q
      unfold wLs at hw
      obtain ⟨rfl, hw⟩ := hw
      unfold RDs at rds
      exact ⟨rds, kk ρ S σ H r (Step.refl S H) hw⟩
    | cons _ _ => unfold mLs at h; cases h
  | .cons t ts, es, h => by
    cases es with
    | nil => unfold mLs at h; cases h
    | cons e es =>
      unfold mLs at h
      rw [Bool.and_eq_true, Bool.and_eq_true] at h
      have e1 : (assignEach (e :: es) X.env).map (·.2) = assign e X.env :: (assignEach es X.env).map (·.2) := by
        have := h.1.1
        cases e <;> first | rfl | cases this
      refine (pgs_cons (sL gd t e h.1.2) (sLs gd ts es h.2) e1).imp fun us σ H Q q => ?_
      obtain ⟨ds, ρ, S, Qd, rds, r, hw, kk⟩ := q
      unfold wLs at hw
      split at hw
      · unfold RDs at rds
        obtain ⟨v, us', rfl, rd, rds⟩ := rds
        exact ⟨v, us', rfl, _, ρ, S, _, rd, r, hw, fun ρ1 S1 σ1 H1 r1 st1 q1 => ⟨_, ρ1, S1, Qd, rds.mono st1, r1, q1, fun ρ2 S2 σ2 H2 r2 st2 q2 => kk ρ2 S2 σ2 H2 r2 (st1.trans st2) q2⟩⟩
      · exact hw.elim
end
end
end G
/-! G14: every statement that matches keeps its wish; a def keeps its promise. -/
namespace G
open PySem L2
/-- what is wanted behind a statement, by data -/
structure CN (g : Gx) (S0 : Sto) (H0 : Hp) (S : Sto) (H : Hp) (N : Nd) (D : Ends) : Prop where
  nx : ∀ ρ' S' σ' H', Rl g S0 H0 ρ' S' σ' H' → Step S H S' H' → N.nx ρ' S' → D.nx σ' H'
  rt : ∀ v d S' H', RD g S' H' d v → RS g S' H' → Step S H S' H' → N.rt d S' → D.rt v H'
  bk : ∀ ρ' S' σ' H', Rl g S0 H0 ρ' S' σ' H' → Step S H S' H' → N.bk ρ' S' → D.bk σ' H'
  ct : ∀ ρ' S' σ' H', Rl g S0 H0 ρ' S' σ' H' → Step S H S' H' → N.ct ρ' S' → D.ct σ' H'
theorem CN.from {g : Gx} {S0 S S1 : Sto} {H0 H H1 : Hp} {N : Nd} {D : Ends} (k : CN g S0 H0 S H N D) (st : Step S H S1 H1) : CN g S0 H0 S1 H1 N D :=
  ⟨fun _ _ _ _ r s q => k.nx _ _ _ _ r (st.trans s) q, fun _ _ _ _ rd rs s q => k.rt _ _ _ _ rd rs (st.trans s) q, fun _ _ _ _ r s q => k.bk _ _ _ _ r (st.trans s) q, fun _ _ _ _ r s q => k.ct _ _ _ _ r (st.trans s) q⟩
def RSt (g : Gx) (S0 : Sto) (H0 : Hp) (w : Sl → Sto → Nd → Prop) : TS := fun D σ H => ∃ ρ S N, Rl g S0 H0 ρ S σ H ∧ w ρ S N ∧ CN g S0 H0 S H N D
structure GoodS (T : Tab) (k : Nat) (g : Gx) (X : Cx) (c : Sc) (ex : QX) (S0 : Sto) (H0 : Hp) : Prop extends Good T k g X c ex S0 H0 where
  fk : c.sc.kind = .function
  po : PassesOwn (model X.prog X.w) X.A X.env X.xe
section
variable {T : Tab} {k : Nat} {g : Gx} {X : Cx} {c : Sc} {ex : QX} {S0 : Sto} {H0 : Hp}
theorem asg1 {t : Expr} {env : Env} (h : noStar t = true) : (assignEach [t] env).map (·.2) = [assign t env] := by
  cases t <;> first | rfl | cases h
theorem mL_star {t : Lh} {x : Expr} (h : mL c t x = true) : noStar x = true := by
  cases t <;> cases x <;> first | rfl | (unfold mL at h; cases h)
theorem sw_none {v : Expr} {l : Nat} {env : Env} (h : noComp v = true) : swapsWith v none l env = pure false := by
  cases v <;> first | rfl | cases h
theorem for_read {w : Sl → Sto → (List D → (Sto → Prop) → Sto → Prop) → Prop} {wg : D → Sl → (Sl → Prop) → Prop} {is : List Nat} {wb : Sl → Sto → Nd → Prop} {D : Ends} {σ : L2.St} {H : Hp}
    (h : RSt g S0 H0 (fun ρ S N => w ρ S fun ds same S1 => wFor wg wb same N ds ρ S1) D σ H) : tFor (RI g S0 H0 w) (RG g S0 H0 wg is) (RSt g S0 H0 wb) D σ H := by
  obtain ⟨ρ, S, N, r, h, kk⟩ := h
  refine ⟨ρ, S, _, r, h, fun ds same S1 H1 J rs1 st1 itr q1 => ?_⟩
  refine ⟨fun i m σ' H' => ∃ ρ' S', m = ds.length - i ∧ i ≤ ds.length ∧ Rl g S0 H0 ρ' S' σ' H' ∧ Step S H S' H' ∧ ItR g J ds same S' H' ∧ wFor wg wb same N (ds.drop i) ρ' S', ⟨_, ρ, S1, rfl, Nat.zero_le _, r.step rs1 st1, st1, itr, q1⟩, ?_⟩
  rintro i m σ' H' ⟨ρ', S', rfl, hi, r', st', itr', hw⟩
  obtain ⟨hgo, hstop⟩ := itr'.get r'.rs
  by_cases hlt : i < ds.length
  · right
    have hd : ds[i]? = some ds[i] := List.getElem?_eq_getElem hlt
    rw [List.drop_eq_getElem_cons hlt] at hw
    unfold wFor at hw
    obtain ⟨hsame, hw⟩ := hw
    refine ⟨(hgo i _ hd).1, _, fun σ'' H'' h => h, fun x H'' hy => ?_⟩
    obtain ⟨rs2, st2, rd2⟩ := (hgo i _ hd).2 x H'' hy
    have same_of : ∀ {ds' : List G.D} {ρ2 : Sl} {S2 : Sto}, wFor wg wb same N ds' ρ2 S2 → same S2 := by
      intro ds' ρ2 S2 hq
      cases ds' <;> (unfold wFor at hq; exact hq.1)
    have next : ∀ ρ3 S3 σ3 H3, Rl g S0 H0 ρ3 S3 σ3 H3 → Step S' H'' S3 H3 → wFor wg wb same N (ds.drop (i + 1)) ρ3 S3 →
        ∃ m', m' < ds.length - i ∧ ∃ ρ' S', m' = ds.length - (i + 1) ∧ i + 1 ≤ ds.length ∧ Rl g S0 H0 ρ' S' σ3 H3 ∧ Step S H S' H3 ∧ ItR g J ds same S' H3 ∧ wFor wg wb same N (ds.drop (i + 1)) ρ' S' :=
      fun ρ3 S3 σ3 H3 r3 st3 q3 => ⟨_, by omega, ρ3, S3, rfl, hlt, r3, st'.trans (st2.trans st3), itr'.step (st2.trans st3) (same_of q3), q3⟩
    refine ⟨_, ρ', S', _, rd2, r'.step rs2 st2, hw, fun ρ2 σ2 r2 _ q2 => ⟨ρ2, S', _, r2, q2, ⟨fun ρ3 S3 σ3 H3 r3 st3 q3 => next ρ3 S3 σ3 H3 r3 st3 q3, fun v d S3 H3 rd rs3 st3 q3 => kk.rt v d S3 H3 rd rs3 (st'.trans (st2.trans st3)) q3,
      fun ρ3 S3 σ3 H3 r3 st3 q3 => kk.nx ρ3 S3 σ3 H3 r3 (st'.trans (st2.trans st3)) q3, fun ρ3 S3 σ3 H3 r3 st3 q3 => next ρ3 S3 σ3 H3 r3 st3 q3⟩⟩⟩
  · left
    have he : i = ds.length := by omega
    rw [he, List.drop_length] at hw
    unfold wFor at hw
    exact ⟨hstop i he, kk.nx ρ' S' σ' H' r' st' hw.2⟩
theorem while_read {wt : Sl → Sto → (Bool → Sto → Prop) → Prop} {wb : Sl → Sto → Nd → Prop} {D : Ends} {σ : L2.St} {H : Hp}
    (h : RSt g S0 H0 (fun ρ S N => ∃ W : Nat → Sl → Sto → Prop, (∃ m, W m ρ S) ∧ ∀ m ρ S, W m ρ S → wt ρ S fun k S1 =>
      if k = true then wb ρ S1 { N with nx := fun ρ' S' => ∃ m', m' < m ∧ W m' ρ' S', ct := fun ρ' S' => ∃ m', m' < m ∧ W m' ρ' S', bk := N.nx } else N.nx ρ S1) D σ H) : tWhile (RT g S0 H0 wt) (RSt g S0 H0 wb) D σ H := by
  obtain ⟨ρ, S, N, r, ⟨W, ⟨m, w0⟩, hw⟩, kk⟩ := h
  refine ⟨fun m σ' H' => ∃ ρ' S', Rl g S0 H0 ρ' S' σ' H' ∧ Step S H S' H' ∧ W m ρ' S', ⟨m, ρ, S, r, Step.refl S H, w0⟩, ?_⟩
  rintro m σ1 H1 ⟨ρ1, S1, r1, st1, w1⟩
  refine ⟨ρ1, S1, _, r1, hw m ρ1 S1 w1, fun b S2 H2 rs2 st2 q2 => ?_⟩
  cases b with
  | false => exact kk.nx ρ1 S2 σ1 H2 (r1.step rs2 st2) (st1.trans st2) q2
  | true =>
    refine ⟨_, fun σ' H' h => h, ρ1, S2, _, r1.step rs2 st2, q2, ?_⟩
    have nx : ∀ ρ3 S3 σ3 H3, Rl g S0 H0 ρ3 S3 σ3 H3 → Step S2 H2 S3 H3 → (∃ m', m' < m ∧ W m' ρ3 S3) → ∃ m', m' < m ∧ ∃ ρ' S', Rl g S0 H0 ρ' S' σ3 H3 ∧ Step S H S' H3 ∧ W m' ρ' S' :=
      fun ρ3 S3 σ3 H3 r3 st3 ⟨m', hm, w'⟩ => ⟨m', hm, ρ3, S3, r3, st1.trans (st2.trans st3), w'⟩
    exact ⟨nx, fun v d S3 H3 rd rs3 st3 q3 => kk.rt v d S3 H3 rd rs3 (st1.trans (st2.trans st3)) q3, fun ρ3 S3 σ3 H3 r3 st3 q3 => kk.nx ρ3 S3 σ3 H3 r3 (st1.trans (st2.trans st3)) q3, nx⟩
theorem s_parS (gd : GoodS T k g X c ex S0 H0) {i j : Nat} {a b : E} {x : Stmt} (h : mS c (.par i j a b) x = true) : PS X x (RSt g S0 H0 (wS T ex (.par i j a b))) := by
  cases x with
  | Assign tgs x pos =>
    cases tgs with
    | nil => unfold mS parB at h; cases h
    | cons tg tgs =>
      cases tgs with
      | cons _ _ => unfold mS parB at h; cases h
      | nil =>
        cases tg with
        | Tuple ts n1 p1 =>
          cases x with
          | Tuple vs n2 p2 =>
            unfold mS at h
            replace h : parB2 c i j a b ts vs = true := h
            unfold parB2 at h
            split at h
            · rename_i x px y py a' b'
              obtain ⟨h, h11⟩ := ands h
              obtain ⟨h, h10⟩ := ands h
              obtain ⟨h, h9⟩ := ands h
              obtain ⟨h, h8⟩ := ands h
              obtain ⟨h, h7⟩ := ands h
              obtain ⟨h, h6⟩ := ands h
              obtain ⟨h, h5⟩ := ands h
              obtain ⟨h, h4⟩ := ands h
              obtain ⟨h, h3⟩ := ands h
              obtain ⟨h1, h2⟩ := ands h
              have hx : X.N[i]? = some x := by rw [gd.N]; simpa using h1
              have hy : X.N[j]? = some y := by rw [gd.N]; simpa using h2
              have hij : i ≠ j := by simpa using h3
              have kx : X.env.scope.names.lookup x = some .local := by rw [gd.sc]; exact beq_iff_eq.mp h4
              have ky : X.env.scope.names.lookup y = some .local := by rw [gd.sc]; exact beq_iff_eq.mp h5
              have hp : swappedStores [.Tuple [.Name x px, .Name y py] n1 p1] (.Tuple [a', b'] n2 p2) X.env = pure (some [x, y]) := by
                rw [st_some gd.fk gd.sc h10, beq_iff_eq.mp h11]
              have ha := s_cons (sE a a' c h6 g X ex S0 H0 gd.toGood).1 (s_cons (sE b b' c h7 g X ex S0 H0 gd.toGood).1 s_nil h9) h8
              refine (ps_par (pos := pos) gd.calm gd.nd hx hy hij kx ky ha hp rfl).imp fun D σ H q => ?_
              obtain ⟨ρ, S, N, r, hw, kk⟩ := q
              unfold wS at hw
              refine ⟨ρ, S, fun ds S2 => match ds with | [d1, d2] => N.nx ((ρ.set i (some d1)).set j (some d2)) S2 | _ => False, r, hw, fun us ds S1 H1 rds rs st q => ?_⟩
              dsimp only at q
              split at q
              · obtain ⟨v, w', rfl, r1, r2⟩ := rds.two
                exact ⟨v, w', rfl, kk.nx _ _ _ _ (((r.step rs st).set r1).set r2) st q⟩
              · exact q.elim
            · cases h
          | _ => unfold mS parB parB1 at h; cases h
        | _ => unfold mS parB parB1 at h; cases h
  | _ => unfold mS at h; cases h
mutual
theorem sS (gd : GoodS T k g X c ex S0 H0) : ∀ (s : St) (x : Stmt), mS c s x = true → PS X x (RSt g S0 H0 (wS T ex s))
  | .expr e, x, h => by
    cases x with
    | Expr x pos =>
      unfold mS at h
      obtain ⟨h1, h2⟩ := ands h
      refine (ps_expr (sE e x c h1 g X ex S0 H0 gd.toGood).1 (sw_none h2)).imp fun D σ H q => ?_
      obtain ⟨ρ, S, N, r, hw, kk⟩ := q
      unfold wS at hw
      exact ⟨ρ, S, _, r, hw, fun v d S1 H1 rd rs st q => kk.nx _ _ _ _ (r.step rs st) st q⟩
    | _ => unfold mS at h; cases h
  | .ret e, x, h => by
    cases x with
    | Return x pos =>
      cases x with
      | none => unfold mS at h; cases h
      | some x =>
        unfold mS at h
        refine (ps_ret (sE e x c h g X ex S0 H0 gd.toGood).1).imp fun D σ H q => ?_
        obtain ⟨ρ, S, N, r, hw, kk⟩ := q
        unfold wS at hw
        exact ⟨ρ, S, _, r, hw, fun v d S1 H1 rd rs st q => kk.rt _ _ _ _ rd rs st q⟩
    | _ => unfold mS at h; cases h
  | .retN, x, h => by
    cases x with
    | Return x pos =>
      cases x with
      | some x => unfold mS at h; cases h
      | none =>
        refine ps_retN.imp fun D σ H q => ?_
        obtain ⟨ρ, S, N, r, hw, kk⟩ := q
        unfold wS at hw
        exact kk.rt _ _ _ _ rd_non r.rs (Step.refl S H) hw
    | _ => unfold mS at h; cases h
  | .pass, x, h => by
    cases x with
    | Pass pos =>
      refine ps_pass.imp fun D σ H q => ?_
      obtain ⟨ρ, S, N, r, hw, kk⟩ := q
      unfold wS at hw
      exact kk.nx _ _ _ _ r (Step.refl S H) hw
    | _ => unfold mS at h; cases h
  | .brk, x, h => by
    cases x with
    | Break pos =>
      refine ps_break.imp fun D σ H q => ?_
      obtain ⟨ρ, S, N, r, hw, kk⟩ := q
      unfold wS at hw
      exact kk.bk _ _ _ _ r (Step.refl S H) hw
    | _ => unfold mS at h; cases h
  | .cont, x, h => by
    cases x with
    | Continue pos =>
      refine ps_continue.imp fun D σ H q => ?_
      obtain ⟨ρ, S, N, r, hw, kk⟩ := q
      unfold wS at hw
      exact kk.ct _ _ _ _ r (Step.refl S H) hw
    | _ => unfold mS at h; cases h
  | .asg t e, x, h => by
    cases x with
    | Assign tgs x pos =>
      cases tgs with
      | nil => unfold mS asgB at h; cases h
      | cons tg tgs =>
        cases tgs with
        | cons _ _ => unfold mS asgB at h; cases h
        | nil =>
          unfold mS asgB at h
          obtain ⟨h, h3⟩ := ands h
          obtain ⟨h1, h2⟩ := ands h
          have hst := mL_star h1
          have hg := sL gd.toGood t tg h1
          have fin : ∀ (te : TE), (∀ σ H Q, RE g S0 H0 (wX T e ex).v σ H Q → te σ H Q) → ∀ D σ H, RSt g S0 H0 (wS T ex (.asg t e)) D σ H → tAsg te (RLd g S0 H0 (wL T ex t)) D σ H := by
            intro te hte D σ H q
            obtain ⟨ρ, S, N, r, hw, kk⟩ := q
            unfold wS at hw
            exact hte σ H _ ⟨ρ, S, _, r, hw, fun v d S1 H1 rd rs st q => ⟨d, ρ, S1, _, rd, r.step rs st, q, fun ρ2 S2 σ2 H2 r2 st2 q2 => kk.nx _ _ _ _ r2 (st.trans st2) q2⟩⟩
          cases hsw : swB c x tg with
          | false =>
            rw [hsw] at h3
            simp only [Bool.not_false, Bool.true_and, Bool.false_and, Bool.or_false] at h3
            refine (ps_asg (sE e x c h2 g X ex S0 H0 gd.toGood).1 hg ?_ (st_none gd.fk gd.sc h3) (asg1 hst)).imp fun D σ H q => fin _ (fun _ _ _ q => q) D σ H q
            show swapsWith x (some tg) pos.line X.env = pure false
            rw [sw_ok gd.fk gd.sc, hsw]
          | true =>
            rw [hsw] at h3
            simp only [Bool.not_true, Bool.false_and, Bool.true_and, Bool.false_or] at h3
            obtain ⟨h3, h4⟩ := ands h3
            cases t with
            | name i =>
              cases x with
              | ListComp elt' gs scope p2 =>
                cases tg with
                | Name y py =>
                  have hsw' : swapsWith (.ListComp elt' gs scope p2) (some (.Name y py)) pos.line X.env = pure true := by rw [sw_ok gd.fk gd.sc, hsw]
                  cases e with
                  | bad => exact ⟨fun pins s σ H D I q => by
                      obtain ⟨_, _, _, _, z, _⟩ := q
                      unfold wS wX at z
                      exact z.elim⟩
                  | lc fz elt tgc it ifs =>
                    obtain ⟨tg', it', ifs', wi, gt, tt, te, own, rfl, hi, ok, hgc, ht, he, hs, rd⟩ := lc_parts h2 (fun x c h => sE elt x c h) (fun x tg c h => sI it x tg c h) (fun x c h => sQ ifs x c h) g X ex S0 H0 gd.toGood
                    unfold mL at h1
                    obtain ⟨n1, n2⟩ := ands h1
                    have hy : X.N[i]? = some y := by rw [gd.N]; simpa using n1
                    have hyl : X.env.scope.names.lookup y = some .local := by
                      rw [gd.sc]
                      unfold swB swN at hsw
                      obtain ⟨z, _⟩ := ands hsw
                      obtain ⟨z, _⟩ := ands z
                      exact (beq_iff_eq.mp z)
                    refine (ps_setLc (i := i) (spos := pos) gd.calm gd.nd hy hyl hsw' hi ok hgc ht he hs).imp fun D σ H q => ?_
                    obtain ⟨ρ, S, N, r, hw, kk⟩ := q
                    unfold wS at hw
                    refine rd σ H _ ⟨ρ, S, _, r, hw, fun v d S1 H1 rd1 rs st q => ?_⟩
                    unfold wL at q
                    exact kk.nx _ _ _ _ ((r.step rs st).set rd1) st q
                  | _ => unfold mE at h2; cases h2
                | _ => unfold mL at h1; cases h1
              | DictComp kx' vx' gs scope p2 =>
                cases tg with
                | Name y py =>
                  have hsw' : swapsWith (.DictComp kx' vx' gs scope p2) (some (.Name y py)) pos.line X.env = pure true := by rw [sw_ok gd.fk gd.sc, hsw]
                  cases e with
                  | bad => exact ⟨fun pins s σ H D I q => by
                      obtain ⟨_, _, _, _, z, _⟩ := q
                      unfold wS wX at z
                      exact z.elim⟩
                  | dc fz kx vx tgc it ifs =>
                    have z := (dc_sound h2 (fun x c h => sE kx x c h) (fun x c h => sE vx x c h) (fun x tg c h => sI it x tg c h) (fun x c h => sQ ifs x c h) g X ex S0 H0 gd.toGood).2
                    unfold mL at h1
                    obtain ⟨n1, n2⟩ := ands h1
                    have hy : X.N[i]? = some y := by rw [gd.N]; simpa using n1
                    have hyl : X.env.scope.names.lookup y = some .local := by
                      rw [gd.sc]
                      unfold swB swN at hsw
                      obtain ⟨z, _⟩ := ands hsw
                      obtain ⟨z, _⟩ := ands z
                      exact (beq_iff_eq.mp z)
                    refine (z i y py pos hy hyl hsw').imp fun D σ H q => ?_
                    obtain ⟨ρ, S, N, r, hw, kk⟩ := q
                    unfold wS at hw
                    refine ⟨ρ, S, _, r, hw, fun v d S1 H1 rd1 rs st q => ?_⟩
                    unfold wL at q
                    exact kk.nx _ _ _ _ ((r.step rs st).set rd1) st q
                  | _ => unfold mE at h2; cases h2
                | _ => unfold mL at h1; cases h1
              | _ => cases h4
            | _ => cases h3
    | _ => unfold mS at h; cases h
  | .par i j a b, x, h => s_parS gd h
  | .ife t a b, x, h => by
    cases x with
    | If t' a' b' pos =>
      unfold mS at h
      obtain ⟨h, h3⟩ := ands h
      obtain ⟨h1, h2⟩ := ands h
      refine (ps_if (sE t t' c h1 g X ex S0 H0 gd.toGood).2 (sSs gd a a' h2) (sSs gd b b' h3)).imp fun D σ H q => ?_
      obtain ⟨ρ, S, N, r, hw, kk⟩ := q
      unfold wS at hw
      refine ⟨ρ, S, _, r, hw, fun bb S1 H1 rs st q => ?_⟩
      cases bb with
      | true => exact ⟨ρ, S1, N, r.step rs st, q, kk.from st⟩
      | false => exact ⟨ρ, S1, N, r.step rs st, q, kk.from st⟩
    | _ => unfold mS at h; cases h
  | .for t it b, x, h => by
    cases x with
    | For t' it' b' els pos =>
      cases els with
      | cons _ _ => unfold mS at h; cases h
      | nil =>
        unfold mS at h
        obtain ⟨h, h4⟩ := ands h
        obtain ⟨h, h3⟩ := ands h
        obtain ⟨h1, h2⟩ := ands h
        have hs : ∀ x, foldedSetIterable it' X.env x = pure x := by
          intro x
          cases it' <;> first | rfl | cases h2
        refine (ps_for gd.po gd.calm (sI it it' t' c h1 g X ex S0 H0 gd.toGood) (sG gd.toGood t t' h3) (sSs gd b b' h4) hs).imp fun D σ H q => for_read ?_
        obtain ⟨ρ, S, N, r, hw, kk⟩ := q
        unfold wS at hw
        exact ⟨ρ, S, N, r, hw, kk⟩
    | _ => unfold mS at h; cases h
  | .bad, x, h => ⟨fun pins s σ H D I q => by
    obtain ⟨_, _, _, _, z, _⟩ := q
    unfold wS at z
    exact z.elim⟩
  | .whl t b, x, h => by
    cases x with
    | While t' b' els pos =>
      cases els with
      | cons _ _ => unfold mS at h; cases h
      | nil =>
        unfold mS at h
        obtain ⟨h1, h2⟩ := ands h
        refine (ps_while gd.po (sE t t' c h1 g X ex S0 H0 gd.toGood).2 (sSs gd b b' h2)).imp fun D σ H q => while_read ?_
        obtain ⟨ρ, S, N, r, hw, kk⟩ := q
        unfold wS at hw
        exact ⟨ρ, S, N, r, hw, kk⟩
    | _ => unfold mS at h; cases h
  | .raise C es, x, h => by
    cases x <;> (unfold mS at h; cases h)
theorem sSs (gd : GoodS T k g X c ex S0 H0) : ∀ (s : Ss) (xs : List Stmt), mSs c s xs = true → PSs X xs (RSt g S0 H0 (wSs T ex s))
  | .nil, xs, h => by
    cases xs with
    | nil =>
      refine pss_nil.imp fun D σ H q => ?_
      obtain ⟨ρ, S, N, r, hw, kk⟩ := q
      unfold wSs at hw
      exact kk.nx _ _ _ _ r (Step.refl S H) hw
    | cons _ _ => unfold mSs at h; cases h
  | .cons s r, xs, h => by
    cases xs with
    | nil => unfold mSs at h; cases h
    | cons x xs =>
      unfold mSs at h
      obtain ⟨h1, h2⟩ := ands h
      refine (pss_cons (sS gd s x h1) (sSs gd r xs h2)).imp fun D σ H q => ?_
      obtain ⟨ρ, S, N, rr, hw, kk⟩ := q
      unfold wSs at hw
      exact ⟨ρ, S, _, rr, hw, ⟨fun ρ1 S1 σ1 H1 r1 st1 q1 => ⟨ρ1, S1, N, r1, q1, kk.from st1⟩, kk.rt, kk.bk, kk.ct⟩⟩
end
end
/-! ### a def -/
def scN (N ps : List Str) (sc : Scope) : Bool := (match sc.kind with | .function => true | _ => false) && !sc.isCoroutine && !sc.isGenerator && decide N.Nodup && decide (N.take ps.length = ps) && (ps.all fun x => locB (sc.names.lookup x)) && (sc.names.all fun y => match y.2 with | .free => false | _ => true)
theorem scope_ok {N ps : List Str} {sc : Scope} (h : scN N ps sc = true) : FnScope N ps sc := by
  unfold scN at h
  obtain ⟨h, h7⟩ := ands h
  obtain ⟨h, h6⟩ := ands h
  obtain ⟨h, h5⟩ := ands h
  obtain ⟨h, h4⟩ := ands h
  obtain ⟨h, h3⟩ := ands h
  obtain ⟨h1, h2⟩ := ands h
  refine ⟨?_, by simpa using h2, by simpa using h3, of_decide_eq_true h4, of_decide_eq_true h5, fun x hx => ?_, fun y hy e => ?_⟩
  · split at h1
    · assumption
    · cases h1
  · have := List.all_eq_true.mp h6 x hx
    unfold locB at this
    split at this <;> first | exact .inl (by assumption) | exact .inr (by assumption) | cases this
  · have := List.all_eq_true.mp h7 y hy
    rw [e] at this
    cases this
/-- what a def's text must be: its names, its body -/
def defOk (N ps : List Str) (b : Ss) (st : Stmt) : Bool := scN N ps (defScope st) && mSs ⟨N, defScope st, fun _ => true⟩ b (defBody st)
section
variable {T : Tab} {k : Nat} {P : Program} {w : World} {K : PySem.W.Frag} {mg : Str → Option Value} {base : Heap}
/-- THE DEF: its text matches the small one, what is promised makes the small one run, so the promise is kept -/
theorem fn_ok {x qual : Str} {st : Stmt} {f : Addr} {fd : FuncData} {N ps : List Str} {b : Ss} {φ : FSp} (ge : GE T K mg P w base k) (F : ∃ (oc : Value) (od : Option Addr) (dV kV doc pm : Value) (an : Option Addr) (cdv ct : Value) (osl : Array (Option Value)),
      fd = PySem.W.fnOf x qual (defArgs st) (defBody st) (defScope st) dV kV doc pm an cdv ct ∧ K.lookup f = some ⟨oc, od, .func fd, osl⟩ ∧ PySem.W.codeIn K cdv qual = true)
    (hd : defOk N ps b st = true) (hl : ∀ ds S Q E, φ ds S Q E → ds.length = ps.length) (hφ : ∀ ds S Q E, φ ds S Q E → wFn T N.length b ds S Q E) : FnG P w K mg base (L2.CX P w) (k + 2) f fd ps (spOf K mg φ) := by
  obtain ⟨oc, od, dV, kV, doc, pm, an, cdv, ct, osl, rfl, lk, hcd⟩ := F
  unfold defOk at hd
  obtain ⟨h1, h2⟩ := ands hd
  have sco := scope_ok h1
  refine fn_g (k := k + 1) lk hcd sco (fun vs H Q E q => ?_) fun A outer s H vs Q E hgd hr hsp => ?_
  · obtain ⟨B, ds, S, Qd, Xd, rds, _, q, _⟩ := q
    rw [← rds.length]
    exact hl ds S Qd Xd q
  · obtain ⟨B, ds, S, Qd, Xd, rds, rs, q, kk, kx⟩ := hsp
    have hlen := hl ds S Qd Xd q
    have gd : GoodS T k ⟨K, mg, B⟩ (cxOf (L2.CX P w) P w K mg base N qual (defScope st) f cdv A outer s H E) ⟨N, defScope st, fun _ => true⟩ Xd S H := {
      gK := rfl, gm := rfl, N := rfl, sc := rfl, fnk := rfl, nd := sco.nd, calm := rfl, room := hr, gds := hgd, ge := ge
      pass := fun pins σ H' s' e s'' I h => passes_call (W := fun c d _ H' => E c d H') (takes_of (E := E) rfl rfl rfl rfl) (fun cls d σ H' ⟨e, S', rx, rs', st', q'⟩ => kx e cls d S' H' rx rs' st' q') pins σ H' s' e s'' I h
      fk := sco.kind
      po := passes_of rfl }
    refine ⟨_, sSs gd b (defBody st) h2, ?_⟩
    have hw := hφ ds S Qd Xd q
    unfold wFn at hw
    have hn : ds.length ≤ N.length := by
      rw [hlen]
      have := congrArg List.length sco.pre
      rw [List.length_take] at this
      omega
    refine ⟨_, S, _, ⟨?_, fun i d e => ?_, rs, Step.refl S H⟩, hw, ⟨fun ρ' S' σ' H' r st' ⟨S2, sb, q'⟩ => ?_, fun v d S' H' rd rs' st' ⟨S2, sb, q'⟩ => ?_, fun _ _ _ _ _ _ z => z.elim, fun _ _ _ _ _ _ z => z.elim⟩⟩
    · unfold L2.start
      rw [List.length_append, List.length_append, List.length_map, List.length_map, List.length_replicate, List.length_replicate, rds.length]
    · by_cases hi : i < ds.length
      · rw [List.getElem?_append_left (by rw [List.length_map]; exact hi), List.getElem?_map] at e
        cases hd : ds[i]? with
        | none => rw [hd] at e; cases e
        | some d' =>
          rw [hd] at e
          cases e
          obtain ⟨v, hv, rd⟩ := rds.get i _ hd
          refine ⟨v, ?_, rd⟩
          unfold L2.start
          rw [List.getElem?_append_left (by rw [List.length_map, ← rds.length]; exact hi), List.getElem?_map, hv]
          rfl
      · rw [List.getElem?_append_right (by rw [List.length_map]; omega), List.getElem?_replicate] at e
        split at e <;> cases e
    · have st2 : Step S' H' S2 H' := fun a o ha hs => ⟨ha, by
        cases e : S2 a with
        | none => rfl
        | some o' => rw [sb a o' e] at hs; cases hs⟩
      exact kk .non .non S2 H' rd_non (r.rs.sub sb) (st'.trans st2) q'
    · have st2 : Step S' H' S2 H' := fun a o ha hs => ⟨ha, by
        cases e : S2 a with
        | none => rfl
        | some o' => rw [sb a o' e] at hs; cases hs⟩
      exact kk v d S2 H' (rd.sub sb) (rs'.sub sb) (st'.trans st2) q'
end
end G
/-! G15: a program's tables, grown def by def. -/
namespace G
open PySem L2
structure Base where
  con : List (Str × D)
  flds : List (Str × List Str)
  dfs : List (Str × List (List D))
  kw : List ((Str × Nat × List Str) × List (Nat ⊕ D))
def Base.tab (b : Base) (fs : List (Str × FSp)) (ms : List ((Str × Str) × FSp)) : Tab where
  con := fun x => b.con.lookup x
  fn := fun f => fs.lookup f
  me := fun C m => ms.lookup (C, m)
  flds := fun C => (b.flds.lookup C).getD []
  dfs := fun f df => df ∈ (b.dfs.lookup f).getD [[]]
  kw := fun f n ks => b.kw.lookup (f, n, ks)
theorem kit_bi (K : PySem.W.Frag) : ∀ n ∈ kdN, ∀ m ∈ biTys, PySem.W.kitOne K (.type n) (.type m) = some (isiB (.b n) (.b m)) := by
  intro n hn m hm
  simp only [kdN, biTys, List.mem_cons, List.not_mem_nil, or_false] at hn hm
  rcases hn with rfl | rfl | rfl | rfl | rfl | rfl | rfl <;> rcases hm with rfl | rfl | rfl | rfl | rfl | rfl <;> rfl
theorem look_mem {α β : Type} [BEq α] [LawfulBEq α] {x : α} {y : β} : ∀ {l : List (α × β)}, l.lookup x = some y → (x, y) ∈ l
  | [], h => by cases h
  | (a, b) :: l, h => by
    rw [List.lookup_cons] at h
    split at h
    · rename_i e
      rw [beq_iff_eq] at e
      subst e
      cases h
      simp
    · exact List.mem_cons_of_mem _ (look_mem h)
section
variable {b : Base} {K : PySem.W.Frag} {mg : Str → Option Value} {P : Program} {w : World} {base : Heap} {k k' : Nat} {fs : List (Str × FSp)} {ms : List ((Str × Str) × FSp)}
/-- what the top has written, once for all -/
structure BF (b : Base) (K : PySem.W.Frag) (mg : Str → Option Value) : Prop where
  con : ∀ p ∈ b.con, ∃ v u, mg p.1 = some u ∧ RelV v u ∧ ∀ B S H, RD ⟨K, mg, B⟩ S H p.2 v
  fld : ∀ p ∈ b.flds, ∃ c, mg p.1 = some (.ref c) ∧ Cls K c ∧ ∀ f ∈ p.2, NoAttr K c f
  own : ∀ C ∈ clN, ∀ c, mg C = some (.ref c) → InsTy K c ∧ (∀ m ∈ biTys, PySem.W.kitOne K (.ref c) (.type m) = some false) ∧ (∀ n ∈ kdN, PySem.W.kitOne K (.type n) (.ref c) = some false) ∧ ∀ C' ∈ clN, ∀ c', mg C' = some (.ref c') → PySem.W.kitOne K (.ref c') (.ref c) = some (C' == C)
  blt : ∀ x : Str, x ∈ (["len", "all", "any", "abs", "max", "min", "int", "str", "tuple", "list", "divmod", "isinstance", "range", "enumerate", "zip", "bool", "dict", "sorted", "set", "repr", "sum", "reversed"] : List Str) → mg x = none
/-- a def of the module -/
def FnE (b : Base) (K : PySem.W.Frag) (mg : Str → Option Value) (P : Program) (w : World) (base : Heap) (k : Nat) (f : Str) (φ : FSp) : Prop :=
  ∃ a fd ps, mg f = some (.ref a) ∧ PySem.W.keepIn K (.ref a) = true ∧ FnG P w K mg base (L2.CX P w) k a fd ps (spOf K mg φ) ∧
    (∀ df ∈ (b.dfs.lookup f).getD [[]], ∃ dvs us, Binds K fd ps us ∧ Vals dvs us ∧ ∀ B S H, RDs ⟨K, mg, B⟩ S H df dvs) ∧
    ∀ n ks pl, b.kw.lookup (f, n, ks) = some pl → ∃ gU gV, KBn K fd ps n ks gU gV ∧ ∀ B S H ds us vs zs, ds.length = n → us.length = ks.length → RDs ⟨K, mg, B⟩ S H ds vs → RDs ⟨K, mg, B⟩ S H us zs → RDs ⟨K, mg, B⟩ S H (pick pl (ds ++ us)) (gV vs zs)
/-- a method -/
def MeE (b : Base) (K : PySem.W.Frag) (mg : Str → Option Value) (P : Program) (w : World) (base : Heap) (k : Nat) (C m : Str) (φ : FSp) : Prop :=
  ∃ c a fd ps, mg C = some (.ref c) ∧ Cls K c ∧ Meth K c m a ∧ FnG P w K mg base (L2.CX P w) k a fd ps (spOf K mg φ) ∧ Binds K fd ps [] ∧
    (m = ini → Mk K c a ∧ ∀ df ∈ (b.dfs.lookup C).getD [[]], ∃ dvs us, Binds K fd ps us ∧ Vals dvs us ∧ ∀ B S H, RDs ⟨K, mg, B⟩ S H df dvs)
theorem FnE.mono {f : Str} {φ : FSp} (h : FnE b K mg P w base k f φ) (hk : k ≤ k') : FnE b K mg P w base k' f φ := by
  obtain ⟨a, fd, ps, h1, h2, F, h3⟩ := h
  exact ⟨a, fd, ps, h1, h2, F.up hk, h3⟩
theorem MeE.mono {C m : Str} {φ : FSp} (h : MeE b K mg P w base k C m φ) (hk : k ≤ k') : MeE b K mg P w base k' C m φ := by
  obtain ⟨c, a, fd, ps, h1, h2, h3, F, h4⟩ := h
  exact ⟨c, a, fd, ps, h1, h2, h3, F.up hk, h4⟩
/-- all that is known at a level -/
structure GL (b : Base) (K : PySem.W.Frag) (mg : Str → Option Value) (P : Program) (w : World) (base : Heap) (fs : List (Str × FSp)) (ms : List ((Str × Str) × FSp)) (k : Nat) : Prop where
  bf : BF b K mg
  fns : ∀ p ∈ fs, FnE b K mg P w base k p.1 p.2
  mes : ∀ p ∈ ms, MeE b K mg P w base k p.1.1 p.1.2 p.2
theorem GL.nil (bf : BF b K mg) : GL b K mg P w base [] [] 0 := ⟨bf, (fun p h => by cases h), (fun p h => by cases h)⟩
theorem GL.fn {f : Str} {φ : FSp} (h : GL b K mg P w base fs ms k) (e : FnE b K mg P w base k' f φ) (hk : k ≤ k') : GL b K mg P w base ((f, φ) :: fs) ms k' := by
  refine ⟨h.bf, fun p hp => ?_, fun p hp => (h.mes p hp).mono hk⟩
  rcases List.mem_cons.mp hp with rfl | hp
  · exact e
  · exact (h.fns p hp).mono hk
theorem GL.me {C m : Str} {φ : FSp} (h : GL b K mg P w base fs ms k) (e : MeE b K mg P w base k' C m φ) (hk : k ≤ k') : GL b K mg P w base fs (((C, m), φ) :: ms) k' := by
  refine ⟨h.bf, fun p hp => (h.fns p hp).mono hk, fun p hp => ?_⟩
  rcases List.mem_cons.mp hp with rfl | hp
  · exact e
  · exact (h.mes p hp).mono hk
theorem GL.ge (h : GL b K mg P w base fs ms k) : GE (b.tab fs ms) K mg P w base k where
  con := fun x d e => h.bf.con (x, d) (look_mem e)
  fns := fun f φ e => h.fns (f, φ) (look_mem e)
  mes := fun C m φ e => by
    obtain ⟨c, a, fd, ps, h1, h2, h3, F, h4, _⟩ := h.mes ((C, m), φ) (look_mem e)
    exact ⟨c, a, fd, ps, h1, h2, h3, F, h4⟩
  mks := fun C φ e => by
    obtain ⟨c, a, fd, ps, h1, h2, h3, F, h4, h5⟩ := h.mes ((C, ini), φ) (look_mem e)
    obtain ⟨m, d⟩ := h5 rfl
    exact ⟨c, a, fd, ps, h1, m, F, d⟩
  fld := fun C f e => by
    have e' : f ∈ (b.flds.lookup C).getD [] := e
    cases hl : b.flds.lookup C with
    | none => rw [hl] at e'; cases e'
    | some l =>
      rw [hl] at e'
      obtain ⟨c, h1, h2, h3⟩ := h.bf.fld (C, l) (look_mem hl)
      exact ⟨c, h1, h2, h3 f e'⟩
  isi := fun kd t kv tv hk ht h1 h2 => by
    cases kd with
    | b n =>
      have e1 : kv = .type n := h1
      subst e1
      have hn := List.contains_iff_mem.mp hk
      refine ⟨?_, fun C c z => by cases z⟩
      cases t with
      | b m =>
        have e2 : tv = .type m := h2
        subst e2
        exact kit_bi K n hn m (List.contains_iff_mem.mp ht)
      | o C =>
        obtain ⟨c, hm, rfl⟩ := h2
        exact (h.bf.own C (List.contains_iff_mem.mp ht) c hm).2.2.1 n hn
    | o C =>
      obtain ⟨c, hm, rfl⟩ := h1
      have q := h.bf.own C (List.contains_iff_mem.mp hk) c hm
      refine ⟨?_, fun C' c' z hm' => ?_⟩
      · cases t with
        | b m =>
          have e2 : tv = .type m := h2
          subst e2
          exact q.2.1 m (List.contains_iff_mem.mp ht)
        | o C' =>
          obtain ⟨c', hm', rfl⟩ := h2
          exact (h.bf.own C' (List.contains_iff_mem.mp ht) c' hm').2.2.2 C (List.contains_iff_mem.mp hk) c hm
      · cases z
        rw [hm] at hm'
        cases hm'
        exact q.1
  blt := h.bf.blt
/-! ### how a def enters -/
/-- a def as the top has laid it -/
structure Laid (K : PySem.W.Frag) (x qual : Str) (st : Stmt) (dvs : List V) (a : Addr) (fd : FuncData) : Prop where
  fun_ : FunD K x qual (defArgs st) (defBody st) (defScope st) dvs [] a fd
theorem FunD.shape {x qual : Str} {st : Stmt} {dvs : List V} {a : Addr} {fd : FuncData} (F : FunD K x qual (defArgs st) (defBody st) (defScope st) dvs [] a fd) :
    ∃ (oc : Value) (od : Option Addr) (dV kV doc pm : Value) (an : Option Addr) (cdv ct : Value) (osl : Array (Option Value)),
      fd = PySem.W.fnOf x qual (defArgs st) (defBody st) (defScope st) dV kV doc pm an cdv ct ∧ K.lookup a = some ⟨oc, od, .func fd, osl⟩ ∧ PySem.W.codeIn K cdv qual = true := by
  obtain ⟨oc, od, dV, kV, doc, pm, an, cdv, ct, osl, h1, h2, h3, _⟩ := F.ex
  exact ⟨oc, od, dV, kV, doc, pm, an, cdv, ct, osl, h1, h2, h3⟩
/-- a plain call: every parameter is written -/
def BindAll (x qual : Str) (st : Stmt) (ps : List Str) : Prop := ∀ (kV doc pm : Value) (an : Option Addr) (cdv ct : Value) (us : List Value), us.length = ps.length → bindArgs (PySem.W.fnOf x qual (defArgs st) (defBody st) (defScope st) .none kV doc pm an cdv ct) ⟨us, []⟩ = pure (ps.zip us)
theorem binds_all {x qual : Str} {st : Stmt} {ps : List Str} {a : Addr} {fd : FuncData} (F : FunD K x qual (defArgs st) (defBody st) (defScope st) [] [] a fd) (h : BindAll x qual st ps) : Binds K fd ps [] := by
  obtain ⟨oc, od, dV, kV, doc, pm, an, cdv, ct, osl, rfl, _, _, hD, _⟩ := F.ex
  rcases hD with ⟨_, rfl⟩ | ⟨e, _⟩
  · exact Binds.all (h kV doc pm an cdv ct)
  · exact absurd rfl e
/-- a call by names, none left out -/
def BindKw (x qual : Str) (st : Stmt) (ps : List Str) (n : Nat) (ks : List Str) (is : List Nat) : Prop := ∀ (kV doc pm : Value) (an : Option Addr) (cdv ct : Value) (us ws : List Value), us.length = n → ws.length = ks.length →
  bindArgs (PySem.W.fnOf x qual (defArgs st) (defBody st) (defScope st) .none kV doc pm an cdv ct) ⟨us, ks.zip ws⟩ = pure (ps.zip (is.map fun j => (us ++ ws).getD j .none))
theorem rds_getD {g : Gx} {S : Sto} {H : Hp} {ds : List D} {vs : List V} (r : RDs g S H ds vs) (j : Nat) : RD g S H (ds.getD j .non) (vs.getD j .non) := by
  rw [List.getD_eq_getElem?_getD, List.getD_eq_getElem?_getD]
  cases e : ds[j]? with
  | some d =>
    obtain ⟨v, h1, h2⟩ := r.get j d e
    rw [h1]
    exact h2
  | none =>
    have : vs[j]? = none := by
      rw [List.getElem?_eq_none_iff] at e ⊢
      rw [← r.length]; exact e
    rw [this]
    exact rd_non
theorem vals_getD {vs : List V} {us : List Value} (r : Vals vs us) (j : Nat) : RelV (vs.getD j .non) (us.getD j .none) := by
  induction r generalizing j with
  | nil => exact rfl
  | cons h t ih =>
    cases j with
    | zero => exact h
    | succ j => exact ih j
theorem kbn_of {x qual : Str} {st : Stmt} {ps : List Str} {a : Addr} {fd : FuncData} {n : Nat} {ks : List Str} {is : List Nat} (F : FunD K x qual (defArgs st) (defBody st) (defScope st) [] [] a fd) (h : BindKw x qual st ps n ks is) :
    ∃ gU gV, KBn K fd ps n ks gU gV ∧ ∀ B S H ds us vs zs, ds.length = n → us.length = ks.length → RDs ⟨K, mg, B⟩ S H ds vs → RDs ⟨K, mg, B⟩ S H us zs → RDs ⟨K, mg, B⟩ S H (pick (is.map .inl) (ds ++ us)) (gV vs zs) := by
  obtain ⟨oc, od, dV, kV, doc, pm, an, cdv, ct, osl, rfl, _, _, hD, _⟩ := F.ex
  obtain rfl : dV = .none := by
    rcases hD with ⟨_, e⟩ | ⟨e, _⟩
    · exact e
    · exact absurd rfl e
  refine ⟨fun us ws => is.map fun j => (us ++ ws).getD j .none, fun vs zs => is.map fun j => (vs ++ zs).getD j .non, ⟨fun s us ws X l1 l2 => .of_eq (h kV doc pm an cdv ct us ws l1 l2), fun r1 r2 => ?_⟩, fun B S H ds us vs zs l1 l2 r1 r2 => ?_⟩
  · have r := r1.append r2
    clear h
    induction is with
    | nil => exact .nil
    | cons j is ih => exact .cons (vals_getD r j) ih
  · have r := r1.append r2
    clear h
    induction is with
    | nil => exact RDs.nil
    | cons j is ih => exact RDs.cons (rds_getD r j) ih
/-- a def without defaults -/
theorem fnE {f : Str} {st : Stmt} {N ps : List Str} {body : Ss} {φ : FSp} {a : Addr} {fd : FuncData} (h : GL b K mg P w base fs ms k) (F : FunD K f f (defArgs st) (defBody st) (defScope st) [] [] a fd) (hm : mg f = some (.ref a)) (hd : defOk N ps body st = true)
    (hb : BindAll f f st ps) (hdf : (b.dfs.lookup f).getD [[]] = [[]]) (hkw : ∀ n ks pl, b.kw.lookup (f, n, ks) = some pl → ∃ is, pl = is.map .inl ∧ BindKw f f st ps n ks is) (hl : ∀ ds S Q E, φ ds S Q E → ds.length = ps.length) (hφ : ∀ ds S Q E, φ ds S Q E → wFn (b.tab fs ms) N.length body ds S Q E) :
    FnE b K mg P w base (k + 2) f φ := by
  refine ⟨a, fd, ps, hm, F.kp, fn_ok h.ge (FunD.shape F) hd hl hφ, fun df e => ?_, fun n ks pl e => ?_⟩
  · rw [hdf, List.mem_singleton] at e
    subst e
    exact ⟨[], [], binds_all F hb, .nil, fun _ _ _ => RDs.nil⟩
  · obtain ⟨is, rfl, hk⟩ := hkw n ks pl e
    exact kbn_of F hk
/-- a method without defaults -/
theorem meE {C m qual : Str} {st : Stmt} {N ps : List Str} {body : Ss} {φ : FSp} {c a : Addr} {fd : FuncData} {dvs : List V} (h : GL b K mg P w base fs ms k) (F : FunD K m qual (defArgs st) (defBody st) (defScope st) dvs [] a fd) (hm : mg C = some (.ref c)) (hc : Cls K c) (mt : Meth K c m a) (hd : defOk N ps body st = true)
    (hb : Binds K fd ps []) (hini : m = ini → Mk K c a ∧ ∀ df ∈ (b.dfs.lookup C).getD [[]], ∃ dvs us, Binds K fd ps us ∧ Vals dvs us ∧ ∀ B S H, RDs ⟨K, mg, B⟩ S H df dvs)
    (hl : ∀ ds S Q E, φ ds S Q E → ds.length = ps.length) (hφ : ∀ ds S Q E, φ ds S Q E → wFn (b.tab fs ms) N.length body ds S Q E) : MeE b K mg P w base (k + 2) C m φ :=
  ⟨c, a, fd, ps, hm, hc, mt, fn_ok h.ge (FunD.shape F) hd hl hφ, hb, hini⟩
end
end G
/-! G16: laws of the wishes, for plain proofs. -/
namespace G
open PySem L2
theorem Sub.refl (S : Sto) : Sub S S := fun _ _ h => h
theorem Sub.trans {A B C : Sto} (h : Sub A B) (h' : Sub B C) : Sub A C := fun a o e => h' a o (h a o e)
theorem Sub.set_new {S : Sto} {a : Addr} {o : O} (h : S a = none) : Sub S (S.set a o) := fun b u e => by
  have : b ≠ a := fun z => by rw [z, h] at e; cases e
  rw [Sto.set_ne this]; exact e
theorem Sub.none {S S' : Sto} (h : Sub S' S) {a : Addr} (e : S a = none) : S' a = none := by
  cases e' : S' a with
  | none => rfl
  | some o => rw [h a o e'] at e; cases e
theorem Sub.set {S S' : Sto} (h : Sub S' S) (a : Addr) (o : O) : Sub (S'.set a o) (S.set a o) := fun b u e => by
  by_cases hb : b = a
  · subst hb; rw [Sto.set_same] at e ⊢; exact e
  · rw [Sto.set_ne hb] at e ⊢; exact h b u e
theorem Sto.set_set {S : Sto} {a : Addr} {o u : O} : (S.set a o).set a u = S.set a u := by
  funext b; unfold Sto.set; split <;> rfl
theorem Sto.set_self {S : Sto} {a : Addr} {o : O} (h : S a = some o) : S.set a o = S := by
  funext b
  unfold Sto.set
  split
  · rename_i e; rw [e, h]
  · rfl
theorem Sto.set_comm {S : Sto} {a b : Addr} {o u : O} (h : a ≠ b) : (S.set a o).set b u = (S.set b u).set a o := by
  funext c
  unfold Sto.set
  by_cases h1 : c = b
  · subst h1; rw [if_pos rfl, if_neg (Ne.symm h), if_pos rfl]
  · rw [if_neg h1, if_neg h1]
section
variable {set : D → Sl → (Sl → Prop) → Prop} {test : Sl → Sto → (Bool → Sto → Prop) → Prop} {elt : Sl → Sto → QV → Prop} {same : Sto → Prop} {ρ : Sl} {S : Sto}
/-- a list is made: an invariant -/
theorem wLc_inv (I : Nat → List D → Sto → Prop) {Q : List D → Sto → Prop} : ∀ {ds acc : List D} {S : Sto} (i : Nat), I i acc S →
    (∀ j d acc S, ds[j]? = some d → I (i + j) acc S → same S ∧ ∀ (k1 : D → Sto → Prop) (k0 : Sto → Prop), (∀ y S2, I (i + j + 1) (acc ++ [y]) S2 → k1 y S2) → (∀ S2, I (i + j + 1) acc S2 → k0 S2) →
      set d ρ fun ρ1 => test ρ1 S fun b S1 => if b = true then elt ρ1 S1 k1 else k0 S1) →
    (∀ j acc S, j ≤ ds.length → I (i + j) acc S → acc.length < lim) →
    (∀ acc S, I (i + ds.length) acc S → same S ∧ Q acc S) → wLc set test elt same ρ ds acc S Q
  | [], acc, S, i, h0, _, _, hq => by unfold wLc; exact hq acc S h0
  | d :: ds, acc, S, i, h0, h, hl, hq => by
    unfold wLc
    obtain ⟨h1, h2⟩ := h 0 d acc S rfl h0
    have e : ∀ j, i + 1 + j = i + (j + 1) := fun j => by omega
    have rest : ∀ acc S, I (i + 1) acc S → wLc set test elt same ρ ds acc S Q := fun acc S hi => wLc_inv I (i + 1) hi
      (fun j d acc S hj hi => by rw [e j] at hi ⊢; exact h (j + 1) d acc S hj hi)
      (fun j acc S hj hi => by rw [e j] at hi; exact hl (j + 1) acc S (by rw [List.length_cons]; omega) hi)
      (fun acc S hi => by rw [e] at hi; exact hq acc S hi)
    exact ⟨h1, h2 _ _ (fun y S2 hy => ⟨hl 0 acc S (Nat.zero_le _) h0, rest _ _ hy⟩) (fun S2 hy => rest _ _ hy)⟩
/-- a list is made of a list, nothing else happens -/
theorem wLc_pure (f : D → D) (keep : D → Bool) {Q : List D → Sto → Prop} : ∀ {ds acc : List D}, same S → (∀ d ∈ ds, ∀ (k1 : D → Sto → Prop) (k0 : Sto → Prop), (keep d = true → k1 (f d) S) → (keep d = false → k0 S) →
      set d ρ fun ρ1 => test ρ1 S fun b S1 => if b = true then elt ρ1 S1 k1 else k0 S1) → acc.length + ds.length ≤ lim → Q (acc ++ (ds.filter keep).map f) S → wLc set test elt same ρ ds acc S Q
  | [], acc, hs, _, _, hq => by unfold wLc; exact ⟨hs, by simpa using hq⟩
  | d :: ds, acc, hs, h, hl, hq => by
    unfold wLc
    rw [List.length_cons] at hl
    refine ⟨hs, h d (by simp) _ _ (fun hk => ⟨by omega, ?_⟩) (fun hk => ?_)⟩
    · refine wLc_pure f keep hs (fun d' hd => h d' (by simp [hd])) (by rw [List.length_append, List.length_singleton]; omega) ?_
      rw [List.filter_cons, if_pos hk, List.map_cons] at hq
      simpa using hq
    · refine wLc_pure f keep hs (fun d' hd => h d' (by simp [hd])) (by omega) ?_
      rw [List.filter_cons, hk] at hq
      simpa using hq
end
theorem filter_all {α : Type} (l : List α) : l.filter (fun _ => true) = l := by simp
/-- a loop: an invariant -/
theorem wFor_inv {set : D → Sl → (Sl → Prop) → Prop} {body : Sl → Sto → Nd → Prop} {same : Sto → Prop} {N : Nd} (I : Nat → Sl → Sto → Prop) : ∀ {ds : List D} {ρ : Sl} {S : Sto} (i : Nat), I i ρ S →
    (∀ j d ρ S, ds[j]? = some d → I (i + j) ρ S → same S ∧ ∀ nx : Sl → Sto → Prop, (∀ ρ' S', I (i + j + 1) ρ' S' → nx ρ' S') → set d ρ fun ρ1 => body ρ1 S { nx := nx, rt := N.rt, bk := N.nx, ct := nx }) →
    (∀ ρ S, I (i + ds.length) ρ S → same S ∧ N.nx ρ S) → wFor set body same N ds ρ S
  | [], ρ, S, i, h0, _, hq => by unfold wFor; exact hq ρ S h0
  | d :: ds, ρ, S, i, h0, h, hq => by
    unfold wFor
    obtain ⟨h1, h2⟩ := h 0 d ρ S rfl h0
    have e : ∀ j, i + 1 + j = i + (j + 1) := fun j => by omega
    have rest : ∀ ρ S, I (i + 1) ρ S → wFor set body same N ds ρ S := fun ρ S hi => wFor_inv I (i + 1) hi (fun j d ρ S hj hi => by rw [e j] at hi ⊢; exact h (j + 1) d ρ S hj hi) (fun ρ S hi => by rw [e] at hi; exact hq ρ S hi)
    exact ⟨h1, h2 _ rest⟩
/-- a truth of a list of truths -/
theorem map_bl {α : Type} (f : α → Bool) (l : List α) : l.map (fun x => D.bl (f x)) = (l.map f).map D.bl := by rw [List.map_map]; rfl
/-! ### kinds -/
def isStrD : D → Bool
  | .str _ => true
  | _ => false
def isIntD : D → Bool
  | .int _ => true
  | .bl _ => true
  | _ => false
def isBlD : D → Bool
  | .bl _ => true
  | _ => false
def isTupD : D → Bool
  | .tup _ => true
  | _ => false
section
variable {S : Sto} {x : D} {k : Kd}
theorem kind_str (h : kindOf S x = some k) : isiB k (.b "str") = isStrD x := by
  cases x <;> simp only [kindOf, Option.some.injEq, reduceCtorEq] at h
  case obj a => split at h <;> first | (cases h; rfl) | cases h
  all_goals (subst h; rfl)
theorem kind_int (h : kindOf S x = some k) : isiB k (.b "int") = isIntD x := by
  cases x <;> simp only [kindOf, Option.some.injEq, reduceCtorEq] at h
  case obj a => split at h <;> first | (cases h; rfl) | cases h
  all_goals (subst h; rfl)
theorem kind_bool (h : kindOf S x = some k) : isiB k (.b "bool") = isBlD x := by
  cases x <;> simp only [kindOf, Option.some.injEq, reduceCtorEq] at h
  case obj a => split at h <;> first | (cases h; rfl) | cases h
  all_goals (subst h; rfl)
theorem kind_tuple (h : kindOf S x = some k) : isiB k (.b "tuple") = isTupD x := by
  cases x <;> simp only [kindOf, Option.some.injEq, reduceCtorEq] at h
  case obj a => split at h <;> first | (cases h; rfl) | cases h
  all_goals (subst h; rfl)
end
theorem tru_bl {S : Sto} {b : Bool} : truD S (.bl b) = some b := rfl
theorem tru_int {S : Sto} {i : Int} : truD S (.int i) = some (i != 0) := rfl
theorem tru_non {S : Sto} : truD S .non = some false := rfl
theorem lc_bl {α : Type} (f : α → Bool) (l : List α) (g : α → D) (h : ∀ x, g x = .bl (f x)) : l.map g = (l.map f).map D.bl := by
  rw [List.map_map]; exact List.map_congr_left fun x _ => h x
/-! ### operators, opened -/
section
variable {S : Sto} {Q : QV} {a b : Int} {x y : List Nat} {xs ys : List D} {u v : D} {fz : Bool}
theorem o_addI : opS .Add (.int a) (.int b) S Q = Q (.int (a + b)) S := rfl
theorem o_subI : opS .Sub (.int a) (.int b) S Q = Q (.int (a - b)) S := rfl
theorem o_mulI : opS .Mult (.int a) (.int b) S Q = (((-(2 ^ 64) < a ∧ a < 2 ^ 64) ∨ (-(2 ^ 64) < b ∧ b < 2 ^ 64)) ∧ Q (.int (a * b)) S) := rfl
theorem o_divI : opS .FloorDiv (.int a) (.int b) S Q = (0 < b ∧ b < 1073741824 ∧ Q (.int (a / b)) S) := rfl
theorem o_modI : opS .Mod (.int a) (.int b) S Q = (0 < b ∧ Q (.int (a % b)) S) := rfl
theorem o_powI : opS .Pow (.int a) (.int b) S Q = (0 ≤ b ∧ b ≤ 1000000 ∧ a.natAbs < 2 ^ 64 ∧ Q (.int (a ^ b.toNat)) S) := rfl
theorem o_addS : opS .Add (.str x) (.str y) S Q = (x.length + y.length ≤ lim ∧ Q (.str (x ++ y)) S) := rfl
theorem o_addL : opS .Add (.lst xs) (.lst ys) S Q = (xs.length + ys.length ≤ lim ∧ Q (.lst (xs ++ ys)) S) := rfl
theorem o_addT : opS .Add (.tup xs) (.tup ys) S Q = (xs.length + ys.length ≤ lim ∧ Q (.tup (xs ++ ys)) S) := rfl
theorem c_ltI : cmpS .Lt (.int a) (.int b) S Q = Q (.bl (decide (a < b))) S := rfl
theorem c_leI : cmpS .LtE (.int a) (.int b) S Q = Q (.bl (decide (a ≤ b))) S := rfl
theorem c_gtI : cmpS .Gt (.int a) (.int b) S Q = Q (.bl (decide (b < a))) S := rfl
theorem c_geI : cmpS .GtE (.int a) (.int b) S Q = Q (.bl (decide (b ≤ a))) S := rfl
theorem c_ltS : cmpS .Lt (.str x) (.str y) S Q = Q (.bl (decide (x < y))) S := rfl
theorem c_eq : cmpS .Eq u v S Q = ((plain u = true ∧ plain v = true ∧ depth u ≤ 64 ∧ depth v ≤ 64) ∧ Q (.bl (beq u v)) S) := rfl
theorem c_ne : cmpS .NotEq u v S Q = ((plain u = true ∧ plain v = true ∧ depth u ≤ 64 ∧ depth v ≤ 64) ∧ Q (.bl (!beq u v)) S) := rfl
theorem b_lenS : biS fz .len [.str x] S Q = (x.length ≤ lim ∧ Q (.int x.length) S) := rfl
theorem b_lenT : biS fz .len [.tup xs] S Q = ∃ zs, some xs = some zs ∧ Q (.int zs.length) S := rfl
theorem b_lenL : biS fz .len [.lst xs] S Q = ∃ zs, some xs = some zs ∧ Q (.int zs.length) S := rfl
theorem b_lenK : biS fz .len [.lsk xs] S Q = ∃ zs, some xs = some zs ∧ Q (.int zs.length) S := rfl
theorem b_absI : biS fz .abs [.int a] S Q = Q (.int (if a < 0 then -a else a)) S := rfl
theorem b_maxI : biS fz .max2 [.int a, .int b] S Q = Q (.int (if b > a then b else a)) S := rfl
theorem b_minI : biS fz .min2 [.int a, .int b] S Q = Q (.int (if b < a then b else a)) S := rfl
theorem b_intI : biS fz .int [.int a] S Q = Q (.int a) S := rfl
theorem b_intB {k : Bool} : biS fz .int [.bl k] S Q = Q (.int (if k then 1 else 0)) S := rfl
theorem b_tupS : biS fz .tuple [.str x] S Q = (x.length ≤ lim ∧ Q (.tup (x.map fun c => .str [c])) S) := rfl
theorem b_tupL : biS fz .tuple [.lst xs] S Q = ∃ zs, some xs = some zs ∧ Q (.tup zs) S := rfl
theorem b_lstS : biS fz .list [.str x] S Q = (x.length ≤ lim ∧ newL fz (x.map fun c => .str [c]) S Q) := rfl
theorem b_dvm : biS fz .divmod [.int a, .int b] S Q = (0 < b ∧ b < 1073741824 ∧ Q (.tup [.int (a / b), .int (a % b)]) S) := rfl
theorem i_str : subS (.str x) (.int a) S Q = (x.length ≤ lim ∧ ∃ c, atI x a = some c ∧ Q (.str [c]) S) := rfl
theorem i_lst : subS (.lst xs) (.int a) S Q = ∃ zs d, some xs = some zs ∧ atI zs a = some d ∧ Q d S := rfl
theorem i_tup : subS (.tup xs) (.int a) S Q = ∃ zs d, some xs = some zs ∧ atI zs a = some d ∧ Q d S := rfl
theorem i_lsk : subS (.lsk xs) (.int a) S Q = ∃ zs d, some xs = some zs ∧ atI zs a = some d ∧ Q d S := rfl
theorem l_str {lo hi : Option Int} : slS (.str x) lo hi S Q = (x.length ≤ lim ∧ Q (.str (cut x lo hi)) S) := rfl
theorem l_tup {lo hi : Option Int} : slS (.tup xs) lo hi S Q = Q (.tup (cut xs lo hi)) S := rfl
theorem l_lst {lo hi : Option Int} : slS (.lst xs) lo hi S Q = ∃ zs, some xs = some zs ∧ Q (.lst (cut zs lo hi)) S := rfl
theorem l_lsk {lo hi : Option Int} : slS (.lsk xs) lo hi S Q = ∃ zs, some xs = some zs ∧ Q (.lst (cut zs lo hi)) S := rfl
theorem n_frz : newL true xs S Q = Q (.lst xs) S := rfl
theorem n_obj : newL false xs S Q = ∀ p, S p = none → Q (.obj p) (S.set p (.lst xs)) := rfl
theorem r_one {R : List D → (Sto → Prop) → Sto → Prop} : rngS [.int a] S R = ((-(2 ^ 62) ≤ a ∧ a < 2 ^ 62) ∧ R ((List.range a.toNat).map fun (k : Nat) => .int (0 + k)) (fun _ => True) S) := rfl
theorem r_two {R : List D → (Sto → Prop) → Sto → Prop} : rngS [.int a, .int b] S R = ((-(2 ^ 62) ≤ a ∧ a < 2 ^ 62 ∧ -(2 ^ 62) ≤ b ∧ b < 2 ^ 62) ∧ R ((List.range (b - a).toNat).map fun (k : Nat) => .int (a + k)) (fun _ => True) S) := rfl
theorem seq_obj {p : Addr} (h : S p = some (.lst xs)) : seqOf S (.obj p) = some xs := by simp only [seqOf, h]
theorem atI_of {α : Type} {l : List α} {i : Int} (h0 : 0 ≤ i) (h : i < l.length) : atI l i = some (l[i.toNat]'(by omega)) := by
  unfold atI ixN
  rw [if_pos h0, if_pos h]
  exact List.getElem?_eq_getElem _
theorem atI_nat {α : Type} (l : List α) (i : Nat) (h : i < l.length) : atI l (i : Int) = some l[i] := by
  rw [atI_of (by omega) (by omega)]
  congr 1
theorem atI_mem {α : Type} {l : List α} {i : Int} (h0 : 0 ≤ i) (h : i < l.length) : ∃ x, x ∈ l ∧ atI l i = some x := ⟨_, List.getElem_mem _, atI_of h0 h⟩
theorem ixN_of {n : Nat} {i : Int} (h0 : 0 ≤ i) (h : i < n) : ixN n i = some i.toNat := by
  unfold ixN
  rw [if_pos h0, if_pos h]
end
end G
/-! G17: what the top has laid, as facts; the law's own end. -/
namespace G
open PySem PySem.Spec PyProof.Rows L2
section
variable {K : PySem.W.Frag} {mg : Str → Option Value} {h : Heap}
/-- a def of the module stands there -/
def FactFn (K : PySem.W.Frag) (mg : Str → Option Value) (f : Str) (st : Stmt) : Prop := ∃ a fd, mg f = some (.ref a) ∧ FunD K f f (defArgs st) (defBody st) (defScope st) [] [] a fd
theorem fact_fn {f : Str} {st : Stmt} {a : Addr} {oc : Value} {od an : Option Addr} {osl : Array (Option Value)} {kV doc pm cdv ct : Value} (X : K.In h) (G : h.Ns mainGlobals mg) (n : PySem.W.nsIn K mainGlobals f = some (some (.ref a)))
    (l : K.lookup a = some ⟨oc, od, .func (PySem.W.fnOf f f (defArgs st) (defBody st) (defScope st) .none kV doc pm an cdv ct), osl⟩) (c : PySem.W.codeIn K cdv f = true) (k : PySem.W.keepIn K (.ref a) = true) : FactFn K mg f st :=
  ⟨a, _, PySem.W.mg_of X G n, ⟨⟨oc, od, .none, kV, doc, pm, an, cdv, ct, osl, rfl, l, c, .inl ⟨rfl, rfl⟩, .inl rfl⟩, k⟩⟩
/-- a class stands there, with a method -/
def FactMe (K : PySem.W.Frag) (mg : Str → Option Value) (C m qual : Str) (st : Stmt) (dvs : List V) : Prop := ∃ c a fd, mg C = some (.ref c) ∧ Cls K c ∧ Meth K c m a ∧ FunD K m qual (defArgs st) (defBody st) (defScope st) dvs [] a fd
def FactCls (K : PySem.W.Frag) (mg : Str → Option Value) (C : Str) (fs : List Str) : Prop := ∃ c, mg C = some (.ref c) ∧ Cls K c ∧ PySem.W.makesIn K c = true ∧ PySem.W.keepIn K (.ref c) = true ∧ InsTy K c ∧ ∀ f ∈ fs, NoAttr K c f
theorem fact_cls {C : Str} {fs : List Str} {c : Addr} (X : K.In h) (G : h.Ns mainGlobals mg) (n : PySem.W.nsIn K mainGlobals C = some (some (.ref c))) (pg : PySem.W.plainGet K c Str.empty = true) (hd : PySem.W.hasDictIn K c = true) (po : PySem.W.plainOver K c = true)
    (sa : PySem.W.findIn K (.ref c) "__setattr__" = some (some (.builtin "object.__setattr__"))) (mk : PySem.W.makesIn K c = true) (kc : PySem.W.keepIn K (.ref c) = true)
    (i1 : PySem.W.findIn K (.ref c) "__class__" = some (some (.builtin "object.__class__"))) (i2 : PySem.W.specialIn K (.builtin "object.__class__") "__get__" = some (some (.builtin "getset_descriptor.__get__")))
    (i3 : PySem.W.takesIn K (.builtin "object.__class__") = some true) (i4 : PySem.W.mroIn K c (.type "object") = some true) (na : ∀ f ∈ fs, NoAttr K c f) : FactCls K mg C fs :=
  ⟨c, PySem.W.mg_of X G n, ⟨pg, hd, po, sa⟩, mk, kc, ⟨⟨pg, hd, po, sa⟩, i1, i2, i3, i4⟩, na⟩
theorem fact_me {C m qual : Str} {st : Stmt} {c a : Addr} {oc : Value} {od an : Option Addr} {osl : Array (Option Value)} {kV doc pm cdv ct : Value} (X : K.In h) (G : h.Ns mainGlobals mg) (n : PySem.W.nsIn K mainGlobals C = some (some (.ref c)))
    (pg : PySem.W.plainGet K c Str.empty = true) (hd : PySem.W.hasDictIn K c = true) (po : PySem.W.plainOver K c = true) (sa : PySem.W.findIn K (.ref c) "__setattr__" = some (some (.builtin "object.__setattr__")))
    (fi : PySem.W.findIn K (.ref c) m = some (some (.ref a))) (fn : PySem.W.isFn K (.ref a) = true)
    (l : K.lookup a = some ⟨oc, od, .func (PySem.W.fnOf m qual (defArgs st) (defBody st) (defScope st) .none kV doc pm an cdv ct), osl⟩) (cc : PySem.W.codeIn K cdv qual = true) (k : PySem.W.keepIn K (.ref a) = true) : FactMe K mg C m qual st [] :=
  ⟨c, a, _, PySem.W.mg_of X G n, ⟨pg, hd, po, sa⟩, ⟨fi, fn, k⟩, ⟨⟨oc, od, .none, kV, doc, pm, an, cdv, ct, osl, rfl, l, cc, .inl ⟨rfl, rfl⟩, .inl rfl⟩, k⟩⟩
/-- a method whose last parameter is () by default -/
def FactMeD (K : PySem.W.Frag) (mg : Str → Option Value) (C m qual : Str) (st : Stmt) : Prop := ∃ e, KT K e [] ∧ FactMe K mg C m qual st [.ref e]
theorem fact_meD {C m qual : Str} {st : Stmt} {c a T e : Addr} {oc : Value} {od an : Option Addr} {osl : Array (Option Value)} {kV doc pm cdv ct : Value} {oT oe : Obj} {n1 n2 : Nat} (X : K.In h) (G : h.Ns mainGlobals mg) (n : PySem.W.nsIn K mainGlobals C = some (some (.ref c)))
    (pg : PySem.W.plainGet K c Str.empty = true) (hd : PySem.W.hasDictIn K c = true) (po : PySem.W.plainOver K c = true) (sa : PySem.W.findIn K (.ref c) "__setattr__" = some (some (.builtin "object.__setattr__")))
    (fi : PySem.W.findIn K (.ref c) m = some (some (.ref a))) (fn : PySem.W.isFn K (.ref a) = true)
    (l : K.lookup a = some ⟨oc, od, .func (PySem.W.fnOf m qual (defArgs st) (defBody st) (defScope st) (.ref T) kV doc pm an cdv ct), osl⟩) (cc : PySem.W.codeIn K cdv qual = true) (k : PySem.W.keepIn K (.ref a) = true)
    (lT : K.lookup T = some oT) (dT : oT.data = .seq #[.ref e] n1) (le : K.lookup e = some oe) (ce : oe.cls = .type "tuple") (de : oe.data = .seq #[] n2) : FactMeD K mg C m qual st :=
  ⟨e, ⟨oe, #[], n2, le, ce, de, Nat.zero_le _, .nil⟩, c, a, _, PySem.W.mg_of X G n, ⟨pg, hd, po, sa⟩, ⟨fi, fn, k⟩, ⟨⟨oc, od, .ref T, kV, doc, pm, an, cdv, ct, osl, rfl, l, cc, .inr ⟨by simp, T, oT, [.ref e], n1, rfl, lT, dT, .cons rfl .nil⟩, .inl rfl⟩, k⟩⟩
/-- constants -/
theorem con_str {x : Str} {s : List Nat} {t : Tok} (X : K.In h) (G : h.Ns mainGlobals mg) (n : PySem.W.nsIn K mainGlobals x = some (some (.str (mkS s) t))) (hc : (s.all fun c => decide (c < 0x110000)) = true) : ∃ v u, mg x = some u ∧ RelV v u ∧ ∀ B S H, RD ⟨K, mg, B⟩ S H (.str s) v :=
  ⟨.str (mkS s), _, PySem.W.mg_of X G n, ⟨t, rfl⟩, fun B S H => rd_str fun c hc' => by simpa using List.all_eq_true.mp hc c hc'⟩
theorem con_int {x : Str} {i : Int} {t : Tok} (X : K.In h) (G : h.Ns mainGlobals mg) (n : PySem.W.nsIn K mainGlobals x = some (some (.int i t))) : ∃ v u, mg x = some u ∧ RelV v u ∧ ∀ B S H, RD ⟨K, mg, B⟩ S H (.int i) v :=
  ⟨.int i, _, PySem.W.mg_of X G n, ⟨t, rfl⟩, fun B S H => rd_int⟩
end
/-! ### the end -/
theorem cx_false {P : Program} {w : World} {H : Hp} {s : Shared} {e : Value} {s' : Shared} (h : L2.CX P w [] H s (fun _ _ _ => False) e s') : False := by
  obtain ⟨_, _, _, _, _, _, _, _, _, _, _, _, q⟩ := h
  exact q.elim
/-- a list of at most n ints is handed in, True comes out -/
def spLaw (n : Nat) (K : PySem.W.Frag) : Sp := fun vs H Q _ => ∃ (a : Addr) (ns : List Int), vs = [.ref a] ∧ SqL K H a (ns.map V.int) ∧ ns.length ≤ n ∧ ∀ H', Q (.bl true) H'
theorem law_sp {n : Nat} {K : PySem.W.Frag} {mg : Str → Option Value} {φ : FSp} (hφ : ∀ (ns : List Int) S E, ns.length ≤ n → φ [.lsk (ns.map .int)] S (fun d _ => d = .bl true) E) (vs : List V) (H : Hp) (Q : VK) (E : XK) (h : spLaw n K vs H Q E) :
    spOf K mg φ vs H Q E := by
  obtain ⟨a, ns, rfl, hS, hn, hQ⟩ := h
  have ri : ∀ (S : Sto) (l : List Int), RDs ⟨K, mg, []⟩ S H (l.map .int) (l.map V.int) := fun S l => by
    induction l with
    | nil => exact RDs.nil
    | cons x r ih => exact RDs.cons rd_int ih
  refine ⟨[], [.lsk (ns.map .int)], fun _ => none, fun d _ => d = .bl true, fun _ _ => False, RDs.cons ?_ RDs.nil, ⟨(fun a o e => by cases e), (fun b hb => by cases hb)⟩, hφ ns _ _ hn, ?_, ?_⟩
  · unfold RD
    rcases hS with hS | hS
    · exact ⟨a, _, rfl, .inl ⟨rfl, by simp, hS⟩, ri _ ns⟩
    · exact ⟨a, _, rfl, .inr hS, ri _ ns⟩
  · rintro v d S' H' rd rs st rfl
    rw [rd.ofBl]
    exact hQ H'
  · intro e c dd S' H' rx rs st z
    exact z.elim
/-- the law's def is called behind the top -/
theorem law_g {P : Program} {w : World} {K : PySem.W.Frag} {mg mb : Str → Option Value} {cx : CXT} {k : Nat} {fa a : Addr} {fd : FuncData} {x : Str} {sp : Sp} {t : Shared} {vs : List Value} {ns : List Int}
    (kx : K.In t.heap) (hm : t.heap.Ns mainGlobals mg) (hb : t.heap.Ns builtinsNs mb) (hbb : ∀ x : Str, x ≠ "__name__" → mb x = bootBuiltins x) (nol : t.heap.NoLimit) (hg : t.gens = #[])
    (ha : t.heap.get? a = some { cls := .type "list", data := .seq vs.toArray }) (hi : IntsAre vs ns) (hl : ns.length ≤ sizeLine) (hr : Room k callerA)
    (F : ∀ base : Heap, FnG P w K mg base cx k fa fd [x] sp) (bt : ∀ (s : Shared) (u : Value), BindsTo s fd ⟨[u], []⟩ [(x, u)])
    (q : ∀ H : Hp, SqL K H a (ns.map V.int) → sp [.ref a] H (fun v _ => v = .bl true) fun _ _ _ => False) (no : ∀ H e s', cx [] H t (fun _ _ _ => False) e s' → False) :
    codeAny (model P w) callerA (.call (.ref fa) ⟨[.ref a], []⟩) (fun r s' => r = .ok (.ret (.bool true)) ∧ OldK t.heap s'.heap ∧ s'.os = t.os ∧ AllBare s'.gens) t := by
  have rv := vals_ints hi
  have lv := hi.length
  have core : ∀ H : Hp, (∀ b u, H b = some u → b = a ∧ u = .frz { cls := .type "list", data := .seq vs.toArray } (.lst (ns.map V.int))) → SqL K H a (ns.map V.int) → (H a ≠ none → K.lookup a = none) →
      codeAny (model P w) callerA (.call (.ref fa) ⟨[.ref a], []⟩) (fun r s' => r = .ok (.ret (.bool true)) ∧ OldK t.heap s'.heap ∧ s'.os = t.os ∧ AllBare s'.gens) t := by
    intro H only sq nk
    have ok : HOk P w H t.heap := fun b u e => by
      obtain ⟨rfl, rfl⟩ := only b u e
      exact ⟨ha, by rw [List.length_map]; exact hl, vs, _, rv, ha⟩
    have un : ∀ {b : Addr} {o : Obj}, t.heap.get? b = some o → (∀ xs n, o.data ≠ .seq xs n) → H b = none := fun {b o} e nd => by
      cases z : H b with
      | none => rfl
      | some u =>
        obtain ⟨rfl, _⟩ := only b u z
        rw [ha] at e
        cases e
        exact absurd rfl (nd _ _)
    have nsb : ∀ {b : Addr} {m : Str → Option Value}, t.heap.Ns b m → (hidT t.heap H).Ns b m := fun {b m} ⟨o, es, ep, e, d, r⟩ => ⟨o, es, ep, hidT_get e (un e fun xs n z => by rw [d] at z; cases z), d, r⟩
    have kb : K.In (hidT t.heap H) := fun b o e => hidT_get (kx b o e) (by
      cases z : H b with
      | none => rfl
      | some u =>
        obtain ⟨rfl, _⟩ := only b u z
        rw [nk (by rw [z]; exact fun y => nomatch y)] at e
        cases e)
    obtain ⟨mc, m1, m2⟩ := nol
    have md : Mod K mg (hidT t.heap H) := ⟨kb, nsb hm, ⟨mb, nsb hb, hbb⟩, mc, nsb m1, m2⟩
    have e0 : Env0 P w K mg (hidT t.heap H) callerA [] t H := ⟨rfl, md, fun b o e => of_hidT e, Nat.le_of_eq (hidT_size _ _), trivial, (fun b hb => nomatch hb), ok, .of_eq hg⟩
    have z := (F (hidT t.heap H)).goes callerA [] t H ⟨[.ref a], []⟩ [.ref a] [.ref a] _ _ rfl hr e0 (bt t (.ref a)) (.cons rfl .nil) (q H sq)
    refine codeAny_mono z fun o s' ho => ?_
    match o, ho with
    | .error e, ho => exact (no H e s' ho).elim
    | .ok .next, ho => exact (show False from ho).elim
    | .ok .brk, ho => exact (show False from ho).elim
    | .ok .cont, ho => exact (show False from ho).elim
    | .ok (.ret u), ho =>
      obtain ⟨v, H', os, bare, un', ok', rv', q'⟩ := ho
      have q'' : v = .bl true := q'
      subst q''
      obtain rfl : u = Value.bool true := rv'
      refine ⟨rfl, OldK.of_keep fun b o e => ?_, os, bare⟩
      cases y : H b with
      | none => exact un'.keep b o e y (fun z => nomatch z) (fun z => nomatch z)
      | some u =>
        obtain ⟨rfl, rfl⟩ := only b u y
        have y' := un'.frzs _ _ _ y
        obtain ⟨e1, _⟩ := ok' _ _ y'
        rw [ha] at e
        cases e
        exact e1
  cases hk : K.lookup a with
  | some o =>
    have e := kx a o hk
    rw [ha] at e
    cases e
    refine core (fun _ => none) (fun b u z => nomatch z) (.inr ⟨_, vs.toArray, _, hk, rfl, rfl, rfl, ?_, ?_⟩) fun z => absurd rfl z
    · rw [List.size_toArray, lv]; exact hl
    · simpa using rv
  | none =>
    let u0 : HO := .frz { cls := .type "list", data := .seq vs.toArray } (.lst (ns.map V.int))
    refine core (fun b => if b = a then some u0 else none) (fun b u z => ?_) (.inl (.inr ⟨_, if_pos rfl⟩)) fun _ => hk
    by_cases hb : b = a
    · have z' := (if_pos hb).symm.trans z
      cases z'
      exact ⟨hb, rfl⟩
    · have z' := (if_neg hb).symm.trans z
      cases z'
theorem walk_law {l : PySem.W.OpenLaw} {n k : Nat} {q : Program} {loose : List Str} {XP : (Str → Option Value) → Heap → Prop} {YP : World → Heap → Prop} {d : DefRec} {K : Params → PySem.W.Frag} {x : Str} (hn : l.most = some n) (hn2 : n ≤ sizeLine) (hdf : d.params.defaults = []) (hr : Room k callerA)
    (hY : ∀ (w : World) (h : Heap), YP w h → (K w.params).In h)
    (F : ∀ (w : World) (mg : Str → Option Value) (fa : Addr) (h : Heap), (K w.params).In h → h.Ns mainGlobals mg → mg d.name = some (.ref fa) →
      ∃ φ : FSp, (∀ (ns : List Int) S E, ns.length ≤ n → φ [.lsk (ns.map .int)] S (fun d _ => d = .bl true) E) ∧ ∃ fd : FuncData, (∀ (s : Shared) (u : Value), BindsTo s fd ⟨[u], []⟩ [(x, u)]) ∧
        ∀ base : Heap, FnG l.prog w (K w.params) mg base (L2.CX l.prog w) k fa fd [x] (spOf (K w.params) mg φ)) :
    PySem.W.WalkO q loose XP YP l.row.toRowW d [] (fun f vs => PySem.call f vs) := by
  refine Att.attach_call hn hdf fun w s0 s1 mg mb fa o pm cd doc a vs ns G Y ho hd hcd hmg hobj hints hlen hg => ?_
  have kx := hY w _ Y
  obtain ⟨φ, h1, fd, h2, h3⟩ := F w mg fa _ kx G.T.g hmg
  exact law_g kx G.T.g G.T.b G.T.builtins G.T.nolimit hg hobj hints (Nat.le_trans hlen hn2) hr (fun base => (h3 base).weak fun vs H Q E h => law_sp (n := n) h1 vs H Q E h) h2
    (fun H sq => ⟨a, ns, rfl, sq, hlen, fun _ => rfl⟩) fun H e s' z => cx_false z
end G
/-! G18: the classes whose kinds are asked; how a law's table gets its facts. -/
namespace G
open PySem L2
section
variable {K : PySem.W.Frag} {mg : Str → Option Value} {h : Heap}
/-- an own class, for isinstance: not there, or a plain class apart from the builtin kinds -/
def FactOwn (K : PySem.W.Frag) (mg : Str → Option Value) (C : Str) : Prop := mg C = none ∨ ∃ c, mg C = some (.ref c) ∧ InsTy K c ∧ ((PySem.W.clsIn K c).isSome && PySem.W.typeIn K (.ref c) == some (.type "type")) = true ∧ (∀ m ∈ biTys, PySem.W.subIn K (.ref c) (.type m) = some false) ∧ PySem.W.subIn K (.ref c) (.ref c) = some true
def FactTwo (K : PySem.W.Frag) (mg : Str → Option Value) (C C' : Str) : Prop := ∀ c c', mg C = some (.ref c) → mg C' = some (.ref c') → PySem.W.subIn K (.ref c') (.ref c) = some false ∧ PySem.W.subIn K (.ref c) (.ref c') = some false
theorem own_no {C : Str} (X : K.In h) (G : h.Ns mainGlobals mg) (n : PySem.W.nsIn K mainGlobals C = some none) : FactOwn K mg C := .inl (PySem.W.mg_none_of X G n)
theorem own_yes {C : Str} {fs : List Str} {c : Addr} (f : FactCls K mg C fs) (X : K.In h) (G : h.Ns mainGlobals mg) (n : PySem.W.nsIn K mainGlobals C = some (some (.ref c))) (h2 : PySem.W.typeIn K (.ref c) = some (.type "type"))
    (m1 : PySem.W.subIn K (.ref c) (.type "int") = some false) (m2 : PySem.W.subIn K (.ref c) (.type "str") = some false) (m3 : PySem.W.subIn K (.ref c) (.type "bool") = some false) (m4 : PySem.W.subIn K (.ref c) (.type "tuple") = some false) (m5 : PySem.W.subIn K (.ref c) (.type "list") = some false) (m6 : PySem.W.subIn K (.ref c) (.type "dict") = some false)
    (ms : PySem.W.subIn K (.ref c) (.ref c) = some true) : FactOwn K mg C := by
  obtain ⟨c', g1, _, _, _, g2, _⟩ := f
  rw [PySem.W.mg_of X G n] at g1
  cases g1
  have h1 : (PySem.W.clsIn K c).isSome = true := by
    have z : (PySem.W.clsIn K c).bind _ = some true := ms
    cases e : PySem.W.clsIn K c with
    | none => rw [e] at z; cases z
    | some _ => rfl
  refine .inr ⟨c, PySem.W.mg_of X G n, g2, by rw [h1, h2]; decide, fun m hm => ?_, ms⟩
  simp only [biTys, List.mem_cons, List.not_mem_nil, or_false] at hm
  rcases hm with rfl | rfl | rfl | rfl | rfl | rfl <;> assumption
theorem two_no {C C' : Str} (X : K.In h) (G : h.Ns mainGlobals mg) (n : PySem.W.nsIn K mainGlobals C' = some none) : FactTwo K mg C C' := fun _ _ _ e => by
  rw [PySem.W.mg_none_of X G n] at e
  cases e
theorem two_no' {C C' : Str} (X : K.In h) (G : h.Ns mainGlobals mg) (n : PySem.W.nsIn K mainGlobals C = some none) : FactTwo K mg C C' := fun _ _ e _ => by
  rw [PySem.W.mg_none_of X G n] at e
  cases e
theorem two_yes {C C' : Str} {c c' : Addr} (X : K.In h) (G : h.Ns mainGlobals mg) (n : PySem.W.nsIn K mainGlobals C = some (some (.ref c))) (n' : PySem.W.nsIn K mainGlobals C' = some (some (.ref c')))
    (h1 : PySem.W.subIn K (.ref c') (.ref c) = some false) (h2 : PySem.W.subIn K (.ref c) (.ref c') = some false) : FactTwo K mg C C' := fun a a' e e' => by
  rw [PySem.W.mg_of X G n] at e
  rw [PySem.W.mg_of X G n'] at e'
  cases e
  cases e'
  exact ⟨h1, h2⟩
theorem meta_bi : ∀ m ∈ biTys, PySem.W.kitMeta m = true := by decide +kernel
theorem sub_bi (c : Addr) : ∀ n ∈ kdN, PySem.W.subIn K (.type n) (.ref c) = some false := by
  intro n hn
  simp only [kdN, List.mem_cons, List.not_mem_nil, or_false] at hn
  rcases hn with rfl | rfl | rfl | rfl | rfl | rfl | rfl <;> rfl
theorem own_all (o1 : FactOwn K mg "Board") (o2 : FactOwn K mg "Wall") (o3 : FactOwn K mg "Desk") (t1 : FactTwo K mg "Board" "Wall") (t2 : FactTwo K mg "Board" "Desk") (t3 : FactTwo K mg "Wall" "Desk") :
    ∀ C ∈ clN, ∀ c, mg C = some (.ref c) → InsTy K c ∧ (∀ m ∈ biTys, PySem.W.kitOne K (.ref c) (.type m) = some false) ∧ (∀ n ∈ kdN, PySem.W.kitOne K (.type n) (.ref c) = some false) ∧ ∀ C' ∈ clN, ∀ c', mg C' = some (.ref c') → PySem.W.kitOne K (.ref c') (.ref c) = some (C' == C) := by
  have own : ∀ C ∈ clN, FactOwn K mg C := by
    intro C hC
    simp only [clN, List.mem_cons, List.not_mem_nil, or_false] at hC
    rcases hC with rfl | rfl | rfl <;> assumption
  have two : ∀ C ∈ clN, ∀ C' ∈ clN, C' ≠ C → ∀ c c', mg C = some (.ref c) → mg C' = some (.ref c') → PySem.W.subIn K (.ref c') (.ref c) = some false := by
    intro C hC C' hC' ne c c' e e'
    simp only [clN, List.mem_cons, List.not_mem_nil, or_false] at hC hC'
    rcases hC with rfl | rfl | rfl <;> rcases hC' with rfl | rfl | rfl
    · exact absurd rfl ne
    · exact (t1 c c' e e').1
    · exact (t2 c c' e e').1
    · exact (t1 c' c e' e).2
    · exact absurd rfl ne
    · exact (t3 c c' e e').1
    · exact (t2 c' c e' e).2
    · exact (t3 c' c e' e).2
    · exact absurd rfl ne
  intro C hC c e
  rcases own C hC with z | ⟨c0, e0, i, cl, bi, se⟩
  · rw [z] at e; cases e
  rw [e0] at e
  cases e
  refine ⟨i, fun m hm => ?_, fun n hn => ?_, fun C' hC' c' e' => ?_⟩
  · unfold PySem.W.kitOne PySem.W.kitCls
    rw [if_neg (by simp)]
    show (if PySem.W.kitMeta m = true then PySem.W.subIn K (.ref c) (.type m) else none) = some false
    rw [if_pos (meta_bi m hm)]
    exact bi m hm
  · unfold PySem.W.kitOne PySem.W.kitCls
    rw [if_neg (by simp)]
    dsimp only
    rw [if_pos cl]
    exact sub_bi c n hn
  · by_cases ne : C' = C
    · subst ne
      rw [e0] at e'
      cases e'
      unfold PySem.W.kitOne
      rw [if_pos (by simp)]
      simp
    · have q := two C hC C' hC' ne c c' e0 e'
      have nc : c' ≠ c := fun z => by
        subst z
        rw [se] at q
        cases q
      unfold PySem.W.kitOne PySem.W.kitCls
      rw [if_neg (by simpa using nc)]
      dsimp only
      rw [if_pos cl, q]
      simp [ne]
/-- a constant of the module; fields of a class -/
def ConF (K : PySem.W.Frag) (mg : Str → Option Value) (p : Str × D) : Prop := ∃ v u, mg p.1 = some u ∧ RelV v u ∧ ∀ B S H, RD ⟨K, mg, B⟩ S H p.2 v
def FldF (K : PySem.W.Frag) (mg : Str → Option Value) (p : Str × List Str) : Prop := ∃ c, mg p.1 = some (.ref c) ∧ Cls K c ∧ ∀ f ∈ p.2, NoAttr K c f
theorem con_str' {x : Str} {s : List Nat} (n : ∃ t, mg x = some (.str (mkS s) t)) (hc : (s.all fun c => decide (c < 0x110000)) = true) : ConF K mg (x, .str s) := by
  obtain ⟨t, n⟩ := n
  exact ⟨.str (mkS s), _, n, ⟨t, rfl⟩, fun B S H => rd_str fun c hc' => by simpa using List.all_eq_true.mp hc c hc'⟩
theorem con_int' {x : Str} {i : Int} (n : ∃ t, mg x = some (.int i t)) : ConF K mg (x, .int i) := by
  obtain ⟨t, n⟩ := n
  exact ⟨.int i, _, n, ⟨t, rfl⟩, fun B S H => rd_int⟩
theorem fld_of {C : Str} {fs : List Str} (f : FactCls K mg C fs) : FldF K mg (C, fs) := by
  obtain ⟨c, h1, h2, _, _, _, h3⟩ := f
  exact ⟨c, h1, h2, h3⟩
def Gone (mg : Str → Option Value) (x : Str) : Prop := mg x = none
theorem gone_of {x : Str} (X : K.In h) (G : h.Ns mainGlobals mg) (n : PySem.W.nsIn K mainGlobals x = some none) : Gone mg x := PySem.W.mg_none_of X G n
theorem bf_of {b : Base} (con : ∀ p ∈ b.con, ConF K mg p) (fld : ∀ p ∈ b.flds, FldF K mg p)
    (own : ∀ C ∈ clN, ∀ c, mg C = some (.ref c) → InsTy K c ∧ (∀ m ∈ biTys, PySem.W.kitOne K (.ref c) (.type m) = some false) ∧ (∀ n ∈ kdN, PySem.W.kitOne K (.type n) (.ref c) = some false) ∧ ∀ C' ∈ clN, ∀ c', mg C' = some (.ref c') → PySem.W.kitOne K (.ref c') (.ref c) = some (C' == C))
    (blt : ∀ x ∈ (["len", "all", "any", "abs", "max", "min", "int", "str", "tuple", "list", "divmod", "isinstance", "range", "enumerate", "zip", "bool", "dict", "sorted", "set", "repr", "sum", "reversed"] : List Str), Gone mg x) : BF b K mg := ⟨con, fld, own, blt⟩
theorem mk_of {C : Str} {fs : List Str} (f : FactCls K mg C fs) : ∀ c, mg C = some (.ref c) → PySem.W.makesIn K c = true ∧ PySem.W.keepIn K (.ref c) = true := fun c e => by
  obtain ⟨c', h1, _, h2, h3, _⟩ := f
  rw [h1] at e
  cases e
  exact ⟨h2, h3⟩
theorem all_nil {α : Type} {P : α → Prop} : ∀ p ∈ ([] : List α), P p := fun p h => by cases h
theorem all_cons {α : Type} {P : α → Prop} {a : α} {l : List α} (h : P a) (t : ∀ p ∈ l, P p) : ∀ p ∈ a :: l, P p := fun p hp => by
  rcases List.mem_cons.mp hp with rfl | hp
  · exact h
  · exact t p hp
/-- a def that is never called by names -/
theorem kw_none {b : Base} {f : Str} (h : b.kw.all (fun p => !(p.1.1 == f)) = true) {st : Stmt} {ps : List Str} : ∀ n ks pl, b.kw.lookup (f, n, ks) = some pl → ∃ is : List Nat, pl = is.map .inl ∧ BindKw f f st ps n ks is := fun n ks pl e => by
  have := List.all_eq_true.mp h _ (look_mem e)
  simp at this
/-- how the table's calls by names bind, one by one -/
theorem kw_by {b : Base} {f : Str} {st : Stmt} {ps : List Str} (h : ∀ p ∈ b.kw, p.1.1 = f → ∃ is : List Nat, p.2 = is.map .inl ∧ BindKw f f st ps p.1.2.1 p.1.2.2 is) :
    ∀ n ks pl, b.kw.lookup (f, n, ks) = some pl → ∃ is : List Nat, pl = is.map .inl ∧ BindKw f f st ps n ks is := fun n ks pl e => h _ (look_mem e) rfl
end
end G
/-! GP: wishes opened node by node, for plain proofs over any table. -/
namespace G
open PySem L2
/-- a def, without defaults -/
def Tab.Fn (T : Tab) (f : Str) (φ : FSp) : Prop := T.fn f = some φ ∧ T.dfs f []
/-- a def with some defaults left out -/
def Tab.FnD (T : Tab) (f : Str) (df : List D) (φ : FSp) : Prop := T.fn f = some φ ∧ T.dfs f df
def Tab.Mk (T : Tab) (C : Str) (df : List D) (φ : FSp) : Prop := T.me C ini = some φ ∧ T.dfs C df
def Tab.Me (T : Tab) (C m : Str) (φ : FSp) : Prop := T.me C m = some φ
def Tab.Kw (T : Tab) (f : Str) (n : Nat) (ks : List Str) (pl : List (Nat ⊕ D)) (φ : FSp) : Prop := T.fn f = some φ ∧ T.kw f n ks = some pl
def Tab.Cl (T : Tab) (C : Str) (fs : List Str) : Prop := ∀ f ∈ fs, f ∈ T.flds C
def Ok (T : Tab) (n : Nat) (b : Ss) (φ : FSp) : Prop := ∀ ds S Q E, φ ds S Q E → wFn T n b ds S Q E
/-- a thing whose kind may be asked -/
def Ak (S : Sto) (x : D) : Prop := ∃ k, kindOf S x = some k ∧ kOk k = true
section
variable {T : Tab} {ex : QX} {es kes : Es} {S : Sto} {φ : FSp} {f : Str}
theorem x_loc {i : Nat} : wX T (.loc i) ex = mkV fun ρ S Q => ∃ d, ρ[i]? = some (some d) ∧ Q d S := by unfold wX; rfl
theorem x_const {d : D} : wX T (.const d) ex = mkV fun _ S Q => Q d S := by unfold wX; rfl
theorem x_glob {x : Str} : wX T (.glob x) ex = mkV fun _ S Q => ∃ d, T.con x = some d ∧ Q d S := by unfold wX; rfl
theorem x_bin {op : Operator} {a b : E} : wX T (.bin op a b) ex = mkV fun ρ S Q => (wX T a ex).v ρ S fun x S1 => (wX T b ex).v ρ S1 fun y S2 => opS op x y S2 Q := by rw [wX]
theorem x_neg {a : E} : wX T (.neg a) ex = mkV fun ρ S Q => (wX T a ex).v ρ S fun x S1 => match x with | .int i => Q (.int (-i)) S1 | _ => False := by rw [wX] <;> rfl
theorem x_cmp {op : CmpOp} {a b : E} : wX T (.cmp op a b) ex = mkV fun ρ S Q => (wX T a ex).v ρ S fun x S1 => (wX T b ex).v ρ S1 fun y S2 => cmpS op x y S2 Q := by rw [wX]
theorem x_cmp2 {op op' : CmpOp} {a b c : E} : wX T (.cmp2 op op' a b c) ex = mkV fun ρ S Q => (wX T a ex).v ρ S fun x S1 => (wX T b ex).v ρ S1 fun y S2 => cmpS op x y S2 fun z S3 => ∃ k, z = .bl k ∧ if k = true then (wX T c ex).v ρ S3 fun u S4 => cmpS op' y u S4 Q else Q (.bl false) S3 := by rw [wX]
theorem x_bool {op : BoolOp} : wX T (.bool op es) ex = wB T op es ex := by rw [wX]
theorem x_not {a : E} : wX T (.not a) ex = ⟨fun ρ S Q => (wX T a ex).v ρ S fun d S1 => ∃ b, truD S1 d = some b ∧ Q (.bl (!b)) S1, fun ρ S Q => (wX T a ex).t ρ S fun b S1 => Q (!b) S1⟩ := by rw [wX]
theorem x_ite {t a b : E} : wX T (.ite t a b) ex = ⟨fun ρ S Q => (wX T t ex).t ρ S fun k S1 => if k = true then (wX T a ex).v ρ S1 Q else (wX T b ex).v ρ S1 Q, fun _ _ _ => False⟩ := by rw [wX]
theorem x_bi {fz : Bool} {b : Bi} : wX T (.bi fz b es) ex = mkV fun ρ S Q => wEs T es ex ρ S fun ds S1 => biS fz b ds S1 Q := by rw [wX]
theorem x_meth {m : Me} {o : E} : wX T (.meth m o es) ex = mkV fun ρ S Q => (wX T o ex).v ρ S fun x S1 => meT m x S1 ∧ wEs T es ex ρ S1 fun ds S2 => meS m x ds S2 Q := by rw [wX]
theorem x_attr {o : E} : wX T (.attr o f) ex = mkV fun ρ S Q => (wX T o ex).v ρ S fun x S1 => ∃ C fs d, insOf S1 x = some (C, fs) ∧ f ∈ T.flds C ∧ fs.lookup f = some d ∧ Q d S1 := by rw [wX]
theorem x_sub {o i : E} : wX T (.sub o i) ex = mkV fun ρ S Q => (wX T o ex).v ρ S fun x S1 => (wX T i ex).v ρ S1 fun y S2 => subS x y S2 Q := by rw [wX]
theorem x_sl {o : E} {lo hi : Eo} : wX T (.sl o lo hi) ex = mkV fun ρ S Q => (wX T o ex).v ρ S fun x S1 => wO T lo ex ρ S1 fun l S2 => wO T hi ex ρ S2 fun h S3 => slS x l h S3 Q := by rw [wX]
theorem x_tup : wX T (.tup es) ex = mkV fun ρ S Q => wEs T es ex ρ S fun ds S1 => ds.length ≤ lim ∧ Q (.tup ds) S1 := by rw [wX]
theorem x_lst {fz : Bool} : wX T (.lst fz es) ex = mkV fun ρ S Q => wEs T es ex ρ S fun ds S1 => ds.length ≤ lim ∧ newL fz ds S1 Q := by rw [wX]
theorem x_lc {fz : Bool} {elt : E} {tg : Tg} {it : It} {ifs : Eo} : wX T (.lc fz elt tg it ifs) ex = mkV fun ρ S Q => wI T it ex ρ S fun ds same S1 => wLc (wG tg) (wTo T ifs fun _ _ => False) (fun ρ S Q => (wX T elt fun _ _ => False).v ρ S Q) same (wipeD ρ (tgSlots tg)) ds [] S1 fun ys S2 => newL fz ys S2 Q := by rw [wX]
theorem x_sset {fz : Bool} {a : E} : wX T (.sset fz a) ex = mkV fun ρ S Q => (wX T a ex).v ρ S fun x S1 => ssetS fz x S1 Q := by rw [wX]
theorem x_repl {fz : Bool} {b : E} : wX T (.repl fz es b) ex = mkV fun ρ S Q => wEs T es ex ρ S fun ds S1 => ds.length ≤ lim ∧ (wX T b ex).v ρ S1 fun y S2 => replS fz ds y S2 Q := by rw [wX]
theorem x_dct {fz : Bool} {ps : Ep} : wX T (.dct fz ps) ex = mkV fun ρ S Q => ∀ a, S a = none → wPs T ps ex ρ (S.set a (.dct [])) fun kvs S1 => S1 a = some (.dct []) ∧ kvs.length ≤ 15 ∧ (kvs.map (·.1)).all (fun d => (toKey d).isSome) = true ∧ (kvs.map fun p => toKey p.1).Nodup ∧ newDc fz a kvs S1 Q := by rw [wX]
theorem x_dc {fz : Bool} {kx vx : E} {tg : Tg} {it : It} {ifs : Eo} : wX T (.dc fz kx vx tg it ifs) ex = mkV fun ρ S Q => wI T it ex ρ S fun ds same S1 =>
      wDc (wG tg) (wTo T ifs fun _ _ => False) (fun ρ S Q => (wX T kx fun _ _ => False).v ρ S Q) (fun ρ S Q => (wX T vx fun _ _ => False).v ρ S Q) same (wipeD ρ (tgSlots tg)) ds [] S1 fun kvs S2 => ∀ a, S2 a = none → newDc fz a kvs S2 Q := by rw [wX]
theorem x_rngT : wX T (.rngT es) ex = mkV fun ρ S Q => wEs T es ex ρ S fun ds S1 => rngS ds S1 fun xs _ S2 => xs.length ≤ lim ∧ Q (.tup xs) S2 := by rw [wX]
theorem x_rev {fz : Bool} {a : E} : wX T (.rev fz a) ex = mkV fun ρ S Q => (wX T a ex).v ρ S fun x S1 => revS fz x S1 Q := by rw [wX]
theorem x_ssc {fz : Bool} {elt : E} {tg : Tg} {it : It} {ifs : Eo} : wX T (.ssc fz elt tg it ifs) ex = mkV fun ρ S Q => wI T it ex ρ S fun ds same S1 => ds.length ≤ 1000 ∧
      wLc (wG tg) (wTo T ifs fun _ _ => False) (fun ρ S Q => (wX T elt fun _ _ => False).v ρ S fun y S2 => (∃ i : Int, y = .int i) ∧ Q y S2) same (wipeD ρ (tgSlots tg)) ds [] S1 fun ys S2 => sscS fz ys S2 Q := by rw [wX]
theorem rv_tup {fz : Bool} {xs : List D} {Q : QV} : revS fz (.tup xs) S Q = Q (.tup xs.reverse) S := rfl
theorem rv_lst {fz : Bool} {xs : List D} {Q : QV} : revS fz (.lst xs) S Q = ∃ zs, some xs = some zs ∧ newL fz zs.reverse S Q := rfl
theorem c_isB {a b : Bool} {Q : QV} : cmpS .Is (.bl a) (.bl b) S Q = Q (.bl (a == b)) S := rfl
theorem and_ex {α : Type} {p : Prop} {x : α} {o : Option α} {P : α → Prop} (hp : p) (ho : o = some x) : (p ∧ ∃ y, o = some y ∧ P y) = P x := by
  subst ho
  simp [hp]
theorem x_call (h : T.Fn f φ) : wX T (.call f es []) ex = mkV fun ρ S Q => wEs T es ex ρ S fun ds S1 => φ ds S1 Q ex := by
  rw [wX]
  congr 1
  funext ρ S Q
  rw [and_ex h.2 h.1]
  simp only [List.append_nil]
theorem x_callD {df : List D} (h : T.FnD f df φ) : wX T (.call f es df) ex = mkV fun ρ S Q => wEs T es ex ρ S fun ds S1 => φ (ds ++ df) S1 Q ex := by
  rw [wX]
  congr 1
  funext ρ S Q
  rw [and_ex h.2 h.1]
theorem x_callk {ks : List Str} {pl : List (Nat ⊕ D)} (h : T.Kw f (esLen es) ks pl φ) : wX T (.callk f es ks kes pl) ex = mkV fun ρ S Q => wEs T es ex ρ S fun ds S1 => wEs T kes ex ρ S1 fun us S2 => ds.length = esLen es ∧ us.length = ks.length ∧ φ (pick pl (ds ++ us)) S2 Q ex := by
  rw [wX]
  congr 1
  funext ρ S Q
  apply propext
  constructor
  · rintro ⟨φ', h1, _, q⟩
    rw [h.1] at h1
    cases h1
    exact q
  · intro q
    exact ⟨φ, h.1, h.2, q⟩
theorem e_nil {ρ : Sl} {Q : List D → Sto → Prop} : wEs T .nil ex ρ S Q = Q [] S := by rw [wEs]
theorem e_cons {e : E} {ρ : Sl} {Q : List D → Sto → Prop} : wEs T (.cons e es) ex ρ S Q = (wX T e ex).v ρ S fun d S1 => wEs T es ex ρ S1 fun ds S2 => Q (d :: ds) S2 := by rw [wEs]
theorem x_callk0 {ks : List Str} {pl : List (Nat ⊕ D)} (h : T.Kw f 0 ks pl φ) : wX T (.callk f .nil ks kes pl) ex = mkV fun ρ S Q => wEs T kes ex ρ S fun us S2 => us.length = ks.length ∧ φ (pick pl us) S2 Q ex := by
  rw [x_callk (es := .nil) h]
  congr 1
  funext ρ S Q
  rw [e_nil]
  simp only [List.length_nil, esLen, List.nil_append, true_and]
theorem x_callk1 {e : E} {ks : List Str} {pl : List (Nat ⊕ D)} (h : T.Kw f 1 ks pl φ) : wX T (.callk f (.cons e .nil) ks kes pl) ex = mkV fun ρ S Q => (wX T e ex).v ρ S fun d S1 => wEs T kes ex ρ S1 fun us S2 => us.length = ks.length ∧ φ (pick pl (d :: us)) S2 Q ex := by
  rw [x_callk (es := .cons e .nil) h]
  congr 1
  funext ρ S Q
  rw [e_cons]
  congr 1
  funext d S1
  rw [e_nil]
  simp only [List.length_cons, List.length_nil, esLen, List.cons_append, List.nil_append, true_and]
theorem x_callk2 {e e' : E} {ks : List Str} {pl : List (Nat ⊕ D)} (h : T.Kw f 2 ks pl φ) : wX T (.callk f (.cons e (.cons e' .nil)) ks kes pl) ex = mkV fun ρ S Q => (wX T e ex).v ρ S fun d S1 => (wX T e' ex).v ρ S1 fun d' S1 => wEs T kes ex ρ S1 fun us S2 => us.length = ks.length ∧ φ (pick pl (d :: d' :: us)) S2 Q ex := by
  rw [x_callk (es := .cons e (.cons e' .nil)) h]
  congr 1
  funext ρ S Q
  rw [e_cons]
  congr 1
  funext d S1
  rw [e_cons]
  congr 1
  funext d' S1
  rw [e_nil]
  simp only [List.length_cons, List.length_nil, esLen, List.cons_append, List.nil_append, true_and]
theorem x_own {o : E} {C m : Str} (h : T.Me C m φ) : wX T (.own o C m es) ex = mkV fun ρ S Q => (wX T o ex).v ρ S fun x S1 => ∃ fs, insOf S1 x = some (C, fs) ∧ fs.lookup m = none ∧ wEs T es ex ρ S1 fun ds S2 => φ (x :: ds) S2 Q ex := by
  rw [wX]
  congr 1
  funext ρ S Q
  apply propext
  constructor
  · rintro ⟨φ', h1, q⟩
    have h' : T.me C m = some φ := h
    rw [h'] at h1
    cases h1
    exact q
  · intro q
    exact ⟨φ, h, q⟩
theorem x_make {fz : Bool} {C : Str} {df : List D} (h : T.Mk C df φ) : wX T (.make fz C es df) ex = mkV fun ρ S Q => wEs T es ex ρ S fun ds S1 => ∀ a, S1 a = none → φ (.obj a :: (ds ++ df)) (S1.set a (.ins C [])) (fun d S2 => d = .non ∧ frz fz a C S2 Q) ex := by
  rw [wX]
  congr 1
  funext ρ S Q
  rw [and_ex h.2 h.1]
/-! ### kinds -/
theorem ak_non : Ak S .non ↔ True := ⟨fun _ => trivial, fun _ => ⟨_, rfl, rfl⟩⟩
theorem ak_bl {b : Bool} : Ak S (.bl b) ↔ True := ⟨fun _ => trivial, fun _ => ⟨_, rfl, rfl⟩⟩
theorem ak_int {i : Int} : Ak S (.int i) ↔ True := ⟨fun _ => trivial, fun _ => ⟨_, rfl, rfl⟩⟩
theorem ak_str {s : List Nat} : Ak S (.str s) ↔ True := ⟨fun _ => trivial, fun _ => ⟨_, rfl, rfl⟩⟩
theorem ak_tup {xs : List D} : Ak S (.tup xs) ↔ True := ⟨fun _ => trivial, fun _ => ⟨_, rfl, rfl⟩⟩
theorem ak_lst {xs : List D} : Ak S (.lst xs) ↔ True := ⟨fun _ => trivial, fun _ => ⟨_, rfl, rfl⟩⟩
theorem ak_dct {xs ys : List D} : Ak S (.dct xs ys) ↔ True := ⟨fun _ => trivial, fun _ => ⟨_, rfl, rfl⟩⟩
def isLstD (S : Sto) : D → Bool
  | .lst _ => true
  | .obj a => match S a with | some (.lst _) => true | _ => false
  | _ => false
def isDctD (S : Sto) : D → Bool
  | .dct _ _ => true
  | .obj a => match S a with | some (.dct _) => true | _ => false
  | _ => false
def isO (S : Sto) (C : Str) (x : D) : Bool := match insOf S x with
  | some p => p.1 == C
  | none => false
theorem kind_list {x : D} {k : Kd} (h : kindOf S x = some k) : isiB k (.b "list") = isLstD S x := by
  cases x <;> simp only [kindOf, Option.some.injEq, reduceCtorEq] at h
  case obj a => split at h <;> first | (cases h; rename_i e; simp only [isLstD, e]; rfl) | cases h
  all_goals (subst h; rfl)
theorem kind_dict {x : D} {k : Kd} (h : kindOf S x = some k) : isiB k (.b "dict") = isDctD S x := by
  cases x <;> simp only [kindOf, Option.some.injEq, reduceCtorEq] at h
  case obj a => split at h <;> first | (cases h; rename_i e; simp only [isDctD, e]; rfl) | cases h
  all_goals (subst h; rfl)
theorem kind_own {x : D} {k : Kd} {C : Str} (h : kindOf S x = some k) : isiB k (.o C) = isO S C x := by
  cases x <;> simp only [kindOf, Option.some.injEq, reduceCtorEq] at h
  case obj a => split at h <;> first | (cases h; rename_i e; simp only [isO, insOf, e]; rfl) | cases h
  all_goals (subst h; rfl)
theorem isi_of {a : E} {t : Kd} {g : Sto → D → Bool} (ht : tyOk T t) (hk : ∀ S x k, kindOf S x = some k → isiB k t = g S x) : wX T (.isi a t) ex = mkV fun ρ S Q => (wX T a ex).v ρ S fun x S1 => Ak S1 x ∧ Q (.bl (g S1 x)) S1 := by
  rw [wX]
  congr 1
  funext ρ S Q
  apply propext
  have e : (fun x S1 => ∃ k, kindOf S1 x = some k ∧ kOk k = true ∧ Q (.bl (isiB k t)) S1) = fun x S1 => Ak S1 x ∧ Q (.bl (g S1 x)) S1 := by
    funext x S1
    apply propext
    constructor
    · rintro ⟨k, h1, h2, q⟩
      exact ⟨⟨k, h1, h2⟩, by rw [← hk S1 x k h1]; exact q⟩
    · rintro ⟨⟨k, h1, h2⟩, q⟩
      exact ⟨k, h1, h2, by rw [hk S1 x k h1]; exact q⟩
  rw [e]
  exact ⟨fun h => h.2, fun h => ⟨ht, h⟩⟩
theorem x_isiS {a : E} : wX T (.isi a (.b "str")) ex = mkV fun ρ S Q => (wX T a ex).v ρ S fun x S1 => Ak S1 x ∧ Q (.bl (isStrD x)) S1 := isi_of (g := fun _ x => isStrD x) trivial fun _ _ _ h => kind_str h
theorem x_isiI {a : E} : wX T (.isi a (.b "int")) ex = mkV fun ρ S Q => (wX T a ex).v ρ S fun x S1 => Ak S1 x ∧ Q (.bl (isIntD x)) S1 := isi_of (g := fun _ x => isIntD x) trivial fun _ _ _ h => kind_int h
theorem x_isiB {a : E} : wX T (.isi a (.b "bool")) ex = mkV fun ρ S Q => (wX T a ex).v ρ S fun x S1 => Ak S1 x ∧ Q (.bl (isBlD x)) S1 := isi_of (g := fun _ x => isBlD x) trivial fun _ _ _ h => kind_bool h
theorem x_isiT {a : E} : wX T (.isi a (.b "tuple")) ex = mkV fun ρ S Q => (wX T a ex).v ρ S fun x S1 => Ak S1 x ∧ Q (.bl (isTupD x)) S1 := isi_of (g := fun _ x => isTupD x) trivial fun _ _ _ h => kind_tuple h
theorem x_isiL {a : E} : wX T (.isi a (.b "list")) ex = mkV fun ρ S Q => (wX T a ex).v ρ S fun x S1 => Ak S1 x ∧ Q (.bl (isLstD S1 x)) S1 := isi_of trivial fun _ _ _ h => kind_list h
theorem x_isiD {a : E} : wX T (.isi a (.b "dict")) ex = mkV fun ρ S Q => (wX T a ex).v ρ S fun x S1 => Ak S1 x ∧ Q (.bl (isDctD S1 x)) S1 := isi_of trivial fun _ _ _ h => kind_dict h
theorem x_isiO {a : E} {C : Str} (h : tyOk T (.o C)) : wX T (.isi a (.o C)) ex = mkV fun ρ S Q => (wX T a ex).v ρ S fun x S1 => Ak S1 x ∧ Q (.bl (isO S1 C x)) S1 := isi_of h fun _ _ _ h => kind_own h
/-! ### stores -/
theorem i_obj {xs : List D} {p : Addr} {i : D} {Q : QV} (h : S p = some (.lst xs)) : subS (.obj p) i S Q = ∃ k d, i = .int k ∧ atI xs k = some d ∧ Q d S := by
  cases i <;> simp only [subS, h]
theorem put_lst {xs : List D} {p : Addr} {i d : D} {k : Sto → Prop} (h : S p = some (.lst xs)) : putS S (.obj p) i d k = ∃ n j, i = .int n ∧ ixN xs.length n = some j ∧ k (S.set p (.lst (xs.set j d))) := by
  simp only [putS, h]
theorem put_dct' {kvs : List (D × D)} {p : Addr} {i d : D} {k : Sto → Prop} (h : S p = some (.dct kvs)) : putS S (.obj p) i d k = ((toKey i).isSome = true ∧ kvs.length < lim ∧ k (S.set p (.dct (putKD kvs i d)))) := by
  simp only [putS, h]
theorem in_dctO {kvs : List (D × D)} {p : Addr} {x : D} {k : Bool → Prop} (h : S p = some (.dct kvs)) : inS S x (.obj p) k = ((toKey x).isSome = true ∧ k (getK kvs x).isSome) := by
  simp only [inS, h]
theorem Sto.del_set {a : Addr} {o : O} (h : S a = none) : (S.set a o).del a = S := by
  funext b
  unfold Sto.del Sto.set
  split
  · rename_i e; rw [e, h]
  · rfl
end
theorem kS_non : isStrD .non = false := rfl
theorem kS_bl {b : Bool} : isStrD (.bl b) = false := rfl
theorem kS_int {i : Int} : isStrD (.int i) = false := rfl
theorem kS_str {s : List Nat} : isStrD (.str s) = true := rfl
theorem kS_tup {xs : List D} : isStrD (.tup xs) = false := rfl
theorem kS_lst {xs : List D} : isStrD (.lst xs) = false := rfl
theorem kS_dct {xs ys : List D} : isStrD (.dct xs ys) = false := rfl
theorem kS_ins {C : Str} {ns : List Str} {ys : List D} : isStrD (.ins C ns ys) = false := rfl
theorem kS_obj {a : Addr} : isStrD (.obj a) = false := rfl
theorem kI_non : isIntD .non = false := rfl
theorem kI_bl {b : Bool} : isIntD (.bl b) = true := rfl
theorem kI_int {i : Int} : isIntD (.int i) = true := rfl
theorem kI_str {s : List Nat} : isIntD (.str s) = false := rfl
theorem kI_tup {xs : List D} : isIntD (.tup xs) = false := rfl
theorem kI_lst {xs : List D} : isIntD (.lst xs) = false := rfl
theorem kI_dct {xs ys : List D} : isIntD (.dct xs ys) = false := rfl
theorem kI_ins {C : Str} {ns : List Str} {ys : List D} : isIntD (.ins C ns ys) = false := rfl
theorem kI_obj {a : Addr} : isIntD (.obj a) = false := rfl
theorem kB_non : isBlD .non = false := rfl
theorem kB_bl {b : Bool} : isBlD (.bl b) = true := rfl
theorem kB_int {i : Int} : isBlD (.int i) = false := rfl
theorem kB_str {s : List Nat} : isBlD (.str s) = false := rfl
theorem kB_tup {xs : List D} : isBlD (.tup xs) = false := rfl
theorem kB_lst {xs : List D} : isBlD (.lst xs) = false := rfl
theorem kB_dct {xs ys : List D} : isBlD (.dct xs ys) = false := rfl
theorem kB_ins {C : Str} {ns : List Str} {ys : List D} : isBlD (.ins C ns ys) = false := rfl
theorem kB_obj {a : Addr} : isBlD (.obj a) = false := rfl
theorem kT_non : isTupD .non = false := rfl
theorem kT_bl {b : Bool} : isTupD (.bl b) = false := rfl
theorem kT_int {i : Int} : isTupD (.int i) = false := rfl
theorem kT_str {s : List Nat} : isTupD (.str s) = false := rfl
theorem kT_tup {xs : List D} : isTupD (.tup xs) = true := rfl
theorem kT_lst {xs : List D} : isTupD (.lst xs) = false := rfl
theorem kT_dct {xs ys : List D} : isTupD (.dct xs ys) = false := rfl
theorem kT_ins {C : Str} {ns : List Str} {ys : List D} : isTupD (.ins C ns ys) = false := rfl
theorem kT_obj {a : Addr} : isTupD (.obj a) = false := rfl
theorem kL_non {S : Sto} : isLstD S .non = false := rfl
theorem kD_non {S : Sto} : isDctD S .non = false := rfl
theorem kL_bl {S : Sto} {b : Bool} : isLstD S (.bl b) = false := rfl
theorem kD_bl {S : Sto} {b : Bool} : isDctD S (.bl b) = false := rfl
theorem kL_int {S : Sto} {i : Int} : isLstD S (.int i) = false := rfl
theorem kD_int {S : Sto} {i : Int} : isDctD S (.int i) = false := rfl
theorem kL_str {S : Sto} {s : List Nat} : isLstD S (.str s) = false := rfl
theorem kD_str {S : Sto} {s : List Nat} : isDctD S (.str s) = false := rfl
theorem kL_tup {S : Sto} {xs : List D} : isLstD S (.tup xs) = false := rfl
theorem kD_tup {S : Sto} {xs : List D} : isDctD S (.tup xs) = false := rfl
theorem kL_lst {S : Sto} {xs : List D} : isLstD S (.lst xs) = true := rfl
theorem kD_lst {S : Sto} {xs : List D} : isDctD S (.lst xs) = false := rfl
theorem kL_dct {S : Sto} {xs ys : List D} : isLstD S (.dct xs ys) = false := rfl
theorem kD_dct {S : Sto} {xs ys : List D} : isDctD S (.dct xs ys) = true := rfl
theorem kL_ins {S : Sto} {C : Str} {ns : List Str} {ys : List D} : isLstD S (.ins C ns ys) = false := rfl
theorem kD_ins {S : Sto} {C : Str} {ns : List Str} {ys : List D} : isDctD S (.ins C ns ys) = false := rfl
/-! ### more operators, opened -/
section
variable {S : Sto} {Q : QV} {x : D} {c : Nat} {b : List Nat} {ys : List D}
theorem c_inS : cmpS .In (.str [c]) (.str b) S Q = Q (.bl (decide (c ∈ b))) S := rfl
theorem c_niS : cmpS .NotIn (.str [c]) (.str b) S Q = Q (.bl (!decide (c ∈ b))) S := rfl
theorem c_inT : cmpS .In x (.tup ys) S Q = (flat x = true ∧ ys.all flat = true ∧ Q (.bl (ys.any fun z => beq z x)) S) := by
  have e : cmpS .In x (.tup ys) S Q = ∃ zs, some ys = some zs ∧ flat x = true ∧ zs.all flat = true ∧ Q (.bl (zs.any fun z => beq z x)) S := by
    unfold cmpS
    cases x
    case str s => rcases s with _ | ⟨c, _ | ⟨d, r⟩⟩ <;> rfl
    all_goals rfl
  rw [e]
  simp
theorem c_niT : cmpS .NotIn x (.tup ys) S Q = (flat x = true ∧ ys.all flat = true ∧ Q (.bl (!(ys.any fun z => beq z x))) S) := by
  have e : cmpS .NotIn x (.tup ys) S Q = ∃ zs, some ys = some zs ∧ flat x = true ∧ zs.all flat = true ∧ Q (.bl (!(zs.any fun z => beq z x))) S := by
    unfold cmpS
    cases x
    case str s => rcases s with _ | ⟨c, _ | ⟨d, r⟩⟩ <;> rfl
    all_goals rfl
  rw [e]
  simp
theorem c_inL : cmpS .In x (.lst ys) S Q = (flat x = true ∧ ys.all flat = true ∧ Q (.bl (ys.any fun z => beq z x)) S) := by
  have e : cmpS .In x (.lst ys) S Q = ∃ zs, some ys = some zs ∧ flat x = true ∧ zs.all flat = true ∧ Q (.bl (zs.any fun z => beq z x)) S := by
    unfold cmpS
    cases x
    case str s => rcases s with _ | ⟨c, _ | ⟨d, r⟩⟩ <;> rfl
    all_goals rfl
  rw [e]
  simp
theorem c_niL : cmpS .NotIn x (.lst ys) S Q = (flat x = true ∧ ys.all flat = true ∧ Q (.bl (!(ys.any fun z => beq z x))) S) := by
  have e : cmpS .NotIn x (.lst ys) S Q = ∃ zs, some ys = some zs ∧ flat x = true ∧ zs.all flat = true ∧ Q (.bl (!(zs.any fun z => beq z x))) S := by
    unfold cmpS
    cases x
    case str s => rcases s with _ | ⟨c, _ | ⟨d, r⟩⟩ <;> rfl
    all_goals rfl
  rw [e]
  simp
theorem c_eqI {i j : Int} : cmpS .Eq (.int i) (.int j) S Q = Q (.bl (decide (i = j))) S := by
  have e : beq (.int i) (.int j) = decide (i = j) := by
    unfold beq
    by_cases h : i = j
    · subst h; simp
    · rw [decide_eq_false h]; simpa using h
  rw [c_eq, e]
  simp [plain, depth]
theorem c_neI {i j : Int} : cmpS .NotEq (.int i) (.int j) S Q = Q (.bl (!decide (i = j))) S := by
  have e : beq (.int i) (.int j) = decide (i = j) := by
    unfold beq
    by_cases h : i = j
    · subst h; simp
    · rw [decide_eq_false h]; simpa using h
  rw [c_ne, e]
  simp [plain, depth]
theorem c_eqS {i j : List Nat} : cmpS .Eq (.str i) (.str j) S Q = Q (.bl (decide (i = j))) S := by
  have e : beq (.str i) (.str j) = decide (i = j) := by
    unfold beq
    by_cases h : i = j
    · subst h; simp
    · rw [decide_eq_false h]; simpa using h
  rw [c_eq, e]
  simp [plain, depth]
theorem c_neS {i j : List Nat} : cmpS .NotEq (.str i) (.str j) S Q = Q (.bl (!decide (i = j))) S := by
  have e : beq (.str i) (.str j) = decide (i = j) := by
    unfold beq
    by_cases h : i = j
    · subst h; simp
    · rw [decide_eq_false h]; simpa using h
  rw [c_ne, e]
  simp [plain, depth]
theorem c_is : cmpS .Is x .non S Q = Q (.bl (isNon x)) S := by
    unfold cmpS
    cases x
    case str s => rcases s with _ | ⟨c, _ | ⟨d, r⟩⟩ <;> rfl
    all_goals rfl
theorem c_isn : cmpS .IsNot x .non S Q = Q (.bl (!isNon x)) S := by
    unfold cmpS
    cases x
    case str s => rcases s with _ | ⟨c, _ | ⟨d, r⟩⟩ <;> rfl
    all_goals rfl
theorem c_inO {kvs : List (D × D)} {p : Addr} (h : S p = some (.dct kvs)) : cmpS .In x (.obj p) S Q = ((toKey x).isSome = true ∧ Q (.bl (getK kvs x).isSome) S) := by
  have e : cmpS .In x (.obj p) S Q = inS S x (.obj p) fun b => Q (.bl b) S := by
    unfold cmpS
    cases x
    case str s => rcases s with _ | ⟨c, _ | ⟨d, r⟩⟩ <;> rfl
    all_goals rfl
  rw [e, in_dctO h]
theorem i_dct {ks vs : List D} : subS (.dct ks vs) x S Q = ∃ d, (toKey x).isSome = true ∧ getK (ks.zip vs) x = some d ∧ Q d S := by unfold subS; rfl
theorem nn_non : isNon .non = true := rfl
theorem nn_int {i : Int} : isNon (.int i) = false := rfl
theorem nn_str {s : List Nat} : isNon (.str s) = false := rfl
theorem nn_tup : isNon (.tup ys) = false := rfl
theorem nn_lst : isNon (.lst ys) = false := rfl
theorem b_tupT : biS true .tuple [.tup ys] S Q = ∃ zs, some ys = some zs ∧ Q (.tup zs) S := rfl
theorem b_rpr : biS true .repr [x] S Q = ((isC x = true ∧ plain x = true ∧ depth x ≤ 64 ∧ (toPy x).showable = true ∧ (reprD x).length ≤ lim) ∧ Q (.str (reprD x)) S) := by unfold biS; rfl
theorem all_id {α : Type} (l : List α) (f : α → Bool) : (l.map f).all id = l.all f := by rw [List.all_map]; rfl
theorem any_id {α : Type} (l : List α) (f : α → Bool) : (l.map f).any id = l.any f := by rw [List.any_map]; rfl
end
/-! ### dict comprehensions -/
theorem getK_none {kvs : List (D × D)} {k : D} (h : ∀ p ∈ kvs, toKey p.1 ≠ toKey k) : kvs.any (keyB k) = false := by
  rw [Bool.eq_false_iff]
  intro hc
  obtain ⟨p, hp, e⟩ := List.any_eq_true.mp hc
  exact h p hp (of_decide_eq_true e)
/-- a dict of new keys is made, nothing else happens -/
theorem wDc_pure {set : D → Sl → (Sl → Prop) → Prop} {test : Sl → Sto → (Bool → Sto → Prop) → Prop} {kx vx : Sl → Sto → QV → Prop} {same : Sto → Prop} {ρ : Sl} {S : Sto} (f h : D → D) {Q : List (D × D) → Sto → Prop} : ∀ {ds : List D} {acc : List (D × D)}, same S →
    (∀ d ∈ ds, ∀ (k1 : D → D → Sto → Prop) (k0 : Sto → Prop), k1 (f d) (h d) S → set d ρ fun ρ1 => test ρ1 S fun b S1 => if b = true then kx ρ1 S1 fun x S2 => vx ρ1 S2 fun y S3 => k1 x y S3 else k0 S1) → (∀ d ∈ ds, (toKey (f d)).isSome = true) →
    acc.length + ds.length ≤ lim → ((acc.map (·.1) ++ ds.map f).map toKey).Nodup → Q (acc ++ ds.map fun d => (f d, h d)) S → wDc set test kx vx same ρ ds acc S Q
  | [], acc, hs, _, _, _, _, hq => by unfold wDc; exact ⟨hs, by simpa using hq⟩
  | d :: ds, acc, hs, hh, hk, hl, hn, hq => by
    unfold wDc
    rw [List.length_cons] at hl
    refine ⟨hs, hh d (by simp) (fun x y S3 => (toKey x).isSome = true ∧ acc.length < lim ∧ wDc set test kx vx same ρ ds (putKD acc x y) S3 Q) _ ⟨hk d (by simp), by omega, ?_⟩⟩
    have nw : putKD acc (f d) (h d) = acc ++ [(f d, h d)] := by
      unfold putKD
      rw [getK_none, if_neg (by simp)]
      intro p hp e
      rw [List.map_append, List.nodup_append] at hn
      exact hn.2.2 _ (List.mem_map.mpr ⟨p.1, List.mem_map.mpr ⟨p, hp, rfl⟩, rfl⟩) _ (List.mem_map.mpr ⟨f d, by simp, rfl⟩) e
    rw [nw]
    refine wDc_pure f h hs (fun d' hd => hh d' (by simp [hd])) (fun d' hd => hk d' (by simp [hd])) (by rw [List.length_append, List.length_singleton]; omega) ?_ ?_
    · simpa using hn
    · simpa using hq
/-! ### purses: three numbers that are drawn from -/
def PS (a : Addr) (S : Sto) : Prop := ∃ s d c : Int, S a = some (.lst [.int s, .int d, .int c])
/-- the purse may be another, nothing else is forgotten -/
def Kp (a : Addr) (S S' : Sto) : Prop := PS a S' ∧ ∀ b o, b ≠ a → S b = some o → S' b = some o
theorem Kp.refl {a : Addr} {S : Sto} (h : PS a S) : Kp a S S := ⟨h, fun _ _ _ e => e⟩
theorem Kp.trans {a : Addr} {A B C : Sto} (h : Kp a A B) (k : Kp a B C) : Kp a A C := ⟨k.1, fun b o n e => k.2 b o n (h.2 b o n e)⟩
theorem Kp.put {a : Addr} {S : Sto} (s d c : Int) : Kp a S (S.set a (.lst [.int s, .int d, .int c])) := ⟨⟨s, d, c, Sto.set_same⟩, fun b o n e => by rw [Sto.set_ne n]; exact e⟩
theorem Kp.new {a p : Addr} {S : Sto} {o : O} (h : PS a S) (hp : S p = none) : Kp a S (S.set p o) := by
  obtain ⟨s, d, c, e⟩ := h
  have ne : a ≠ p := fun z => by rw [z, hp] at e; cases e
  exact ⟨⟨s, d, c, by rw [Sto.set_ne ne]; exact e⟩, fun b u n e' => by rw [Sto.set_ne fun z => by rw [z, hp] at e'; cases e']; exact e'⟩
theorem PS.ne {a p : Addr} {S : Sto} (h : PS a S) (hp : S p = none) : p ≠ a := fun z => by
  obtain ⟨s, d, c, e⟩ := h
  rw [← z, hp] at e; cases e
end G
namespace G
open PySem L2
def b_is_whole : Ss := (.cons (.ret (.bool .And (.cons (.isi (.loc 0) (.b "int")) (.cons (.not (.isi (.loc 0) (.b "bool"))) .nil)))) .nil)
def n_is_whole : Nat := 1
def b_is_within : Ss := (.cons (.ret (.bool .And (.cons (.call "is_whole" (.cons (.loc 0) .nil) []) (.cons (.cmp2 .LtE .LtE (.loc 1) (.loc 0) (.loc 2)) .nil)))) .nil)
def n_is_within : Nat := 3
def b_are_letters : Ss := (.cons (.ret (.bool .And (.cons (.isi (.loc 0) (.b "str")) (.cons (.cmp2 .LtE .LtE (.const (.int 1)) (.bi true .len (.cons (.loc 0) .nil)) (.loc 1)) (.cons (.bi true .all (.cons (.lc true (.cmp .In (.loc 2) (.glob "LETTERS")) (.name 2) (.seq (.loc 0)) .no) .nil)) .nil))))) .nil)
def n_are_letters : Nat := 3
def b_is_name : Ss := (.cons (.ret (.call "are_letters" (.cons (.loc 0) (.cons (.glob "MOST_NAME") .nil)) [])) .nil)
def n_is_name : Nat := 1
def b_is_rising : Ss := (.cons (.ret (.bi true .all (.cons (.lc true (.cmp .Lt (.loc 1) (.loc 2)) (.tup (.cons (.name 1) (.cons (.name 2) .nil))) (.zip (.loc 0) (.sl (.loc 0) (.yes (.const (.int 1))) .no)) .no) .nil))) .nil)
def n_is_rising : Nat := 3
def b_are_cells : Ss := (.cons (.ret (.bool .And (.cons (.isi (.loc 0) (.b "tuple")) (.cons (.bi true .all (.cons (.lc true (.call "is_within" (.cons (.loc 2) (.cons (.const (.int 0)) (.cons (.bin .Sub (.loc 1) (.const (.int 1))) .nil))) []) (.name 2) (.seq (.loc 0)) .no) .nil)) (.cons (.call "is_rising" (.cons (.loc 0) .nil) []) .nil))))) .nil)
def n_are_cells : Nat := 3
def b_are_pots : Ss := (.cons (.ret (.bool .And (.cons (.call "are_letters" (.cons (.loc 0) (.cons (.glob "MOST_POTS") .nil)) []) (.cons (.call "is_rising" (.cons (.loc 0) .nil) []) .nil)))) .nil)
def n_are_pots : Nat := 1
def c_is_band_0 : Ss := (.cons (.ret (.bool .And (.cons (.call "are_pots" (.cons (.loc 4) .nil) []) (.cons (.call "is_within" (.cons (.loc 5) (.cons (.const (.int 1)) (.cons (.glob "MOST_COST") .nil))) []) .nil)))) .nil)
def c_is_band_1 : Ss := (.cons (.ife (.bool .Or (.cons (.not (.call "is_name" (.cons (.loc 2) .nil) [])) (.cons (.not (.call "are_cells" (.cons (.loc 3) (.cons (.loc 1) .nil)) [])) (.cons (.cmp .Eq (.loc 3) (.tup .nil)) .nil)))) (.cons (.ret (.const (.bl false))) .nil) .nil) c_is_band_0)
def c_is_band_2 : Ss := (.cons (.asg (.tup (.cons (.name 2) (.cons (.name 3) (.cons (.name 4) (.cons (.name 5) .nil))))) (.loc 0)) c_is_band_1)
def b_is_band : Ss := (.cons (.ife (.bool .Or (.cons (.not (.isi (.loc 0) (.b "tuple"))) (.cons (.cmp .NotEq (.bi true .len (.cons (.loc 0) .nil)) (.const (.int 4))) .nil))) (.cons (.ret (.const (.bl false))) .nil) .nil) c_is_band_2)
def n_is_band : Nat := 6
def c_check_bands_0 : Ss := (.cons (.asg (.sub (.loc 2) (.sub (.loc 4) (.const (.int 0)))) (.const (.bl true))) .nil)
def c_check_bands_1 : Ss := (.cons (.for (.tup (.cons (.name 3) (.cons (.name 4) .nil))) (.enum (.loc 0)) (.cons (.ife (.bool .Or (.cons (.not (.call "is_band" (.cons (.loc 4) (.cons (.loc 1) .nil)) [])) (.cons (.cmp .In (.sub (.loc 4) (.const (.int 0))) (.loc 2)) .nil))) (.cons .bad .nil) .nil) c_check_bands_0)) .nil)
def c_check_bands_2 : Ss := (.cons (.asg (.name 2) (.dct false .nil)) c_check_bands_1)
def b_check_bands : Ss := (.cons (.ife (.bool .Or (.cons (.not (.isi (.loc 0) (.b "tuple"))) (.cons (.cmp .Gt (.bi true .len (.cons (.loc 0) .nil)) (.glob "MOST_BANDS")) .nil))) (.cons .bad .nil) .nil) c_check_bands_2)
def n_check_bands : Nat := 5
/- bad in check_bands: [(77, 'Raise'), (81, 'Raise')] -/
def c_Board_init_0 : Ss := (.cons (.asg (.attr (.loc 0) "bands") (.loc 3)) .nil)
def c_Board_init_1 : Ss := (.cons (.asg (.attr (.loc 0) "wide") (.loc 2)) c_Board_init_0)
def c_Board_init_2 : Ss := (.cons (.asg (.attr (.loc 0) "high") (.loc 1)) c_Board_init_1)
def c_Board_init_3 : Ss := (.cons (.expr (.call "check_bands" (.cons (.loc 3) (.cons (.bin .Mult (.loc 1) (.loc 2)) .nil)) [])) c_Board_init_2)
def c_Board_init_4 : Ss := (.cons (.ife (.not (.call "is_within" (.cons (.loc 2) (.cons (.const (.int 1)) (.cons (.glob "MOST_SIDE") .nil))) [])) (.cons .bad .nil) .nil) c_Board_init_3)
def b_Board_init : Ss := (.cons (.ife (.not (.call "is_within" (.cons (.loc 1) (.cons (.const (.int 1)) (.cons (.glob "MOST_SIDE") .nil))) [])) (.cons .bad .nil) .nil) c_Board_init_4)
def n_Board_init : Nat := 4
/- bad in Board.__init__: [(90, 'Raise'), (92, 'Raise')] -/
def b_check_board : Ss := (.cons (.ife (.not (.isi (.loc 0) (.o "Board"))) (.cons .bad .nil) .nil) .nil)
def n_check_board : Nat := 1
/- bad in check_board: [(145, 'Raise')] -/
def b_is_colour : Ss := (.cons (.ret (.call "are_letters" (.cons (.loc 0) (.cons (.const (.int 1)) .nil)) [])) .nil)
def n_is_colour : Nat := 1
def b_are_colours : Ss := (.cons (.ret (.bool .And (.cons (.isi (.loc 0) (.b "str")) (.cons (.bi true .all (.cons (.lc true (.call "is_colour" (.cons (.loc 1) .nil) []) (.name 1) (.seq (.loc 0)) .no) .nil)) .nil)))) .nil)
def n_are_colours : Nat := 2
def b_how_many : Ss := (.cons (.ret (.bin .Mult (.attr (.loc 0) "high") (.attr (.loc 0) "wide"))) .nil)
def n_how_many : Nat := 1
def c_is_picture_0 : Ss := (.cons (.ret (.bool .And (.cons (.call "are_colours" (.cons (.loc 1) .nil) []) (.cons (.cmp .Eq (.bi true .len (.cons (.loc 1) .nil)) (.call "how_many" (.cons (.loc 0) .nil) [])) .nil)))) .nil)
def b_is_picture : Ss := (.cons (.expr (.call "check_board" (.cons (.loc 0) .nil) [])) c_is_picture_0)
def n_is_picture : Nat := 2
def b_check_picture : Ss := (.cons (.ife (.not (.call "is_picture" (.cons (.loc 0) (.cons (.loc 1) .nil)) [])) (.cons .bad .nil) .nil) .nil)
def n_check_picture : Nat := 2
/- bad in check_picture: [(156, 'Raise')] -/
def c_is_stroke_0 : Ss := (.cons (.ret (.bi true .any (.cons (.lc true (.bool .And (.cons (.cmp .Eq (.loc 4) (.loc 2)) (.cons (.cmp .Eq (.bi true .len (.cons (.loc 3) .nil)) (.const (.int 1))) (.cons (.cmp .In (.loc 3) (.loc 6)) .nil)))) (.tup (.cons (.name 4) (.cons (.name 5) (.cons (.name 6) (.cons (.name 7) .nil))))) (.seq (.attr (.loc 0) "bands")) .no) .nil))) .nil)
def c_is_stroke_1 : Ss := (.cons (.asg (.tup (.cons (.name 2) (.cons (.name 3) .nil))) (.loc 1)) c_is_stroke_0)
def b_is_stroke : Ss := (.cons (.ife (.bool .Or (.cons (.not (.isi (.loc 1) (.b "tuple"))) (.cons (.cmp .NotEq (.bi true .len (.cons (.loc 1) .nil)) (.const (.int 2))) (.cons (.not (.bi true .all (.cons (.lc true (.isi (.loc 8) (.b "str")) (.name 8) (.seq (.loc 1)) .no) .nil))) .nil)))) (.cons (.ret (.const (.bl false))) .nil) .nil) c_is_stroke_1)
def n_is_stroke : Nat := 9
def c_check_history_0 : Ss := (.cons (.for (.tup (.cons (.name 2) (.cons (.name 3) .nil))) (.enum (.loc 1)) (.cons (.ife (.not (.call "is_stroke" (.cons (.loc 0) (.cons (.loc 3) .nil)) [])) (.cons .bad .nil) .nil) .nil)) .nil)
def b_check_history : Ss := (.cons (.ife (.bool .Or (.cons (.not (.isi (.loc 1) (.b "tuple"))) (.cons (.cmp .Gt (.bi true .len (.cons (.loc 1) .nil)) (.glob "MOST_STROKES")) .nil))) (.cons .bad .nil) .nil) c_check_history_0)
def n_check_history : Nat := 4
/- bad in check_history: [(166, 'Raise'), (169, 'Raise')] -/
def c_last_numbers_0 : Ss := (.cons (.ret (.bi true .tuple (.cons (.loc 3) .nil))) .nil)
def c_last_numbers_1 : Ss := (.cons (.for (.tup (.cons (.name 4) (.cons (.tup (.cons (.name 6) (.cons (.name 7) .nil))) .nil))) (.enum (.loc 1)) (.cons (.for (.name 5) (.seq (.sub (.loc 2) (.loc 6))) (.cons (.asg (.sub (.loc 3) (.loc 5)) (.loc 4)) .nil)) .nil)) c_last_numbers_0)
def c_last_numbers_2 : Ss := (.cons (.asg (.name 3) (.repl false (.cons (.const .non) .nil) (.bin .Mult (.attr (.loc 0) "high") (.attr (.loc 0) "wide")))) c_last_numbers_1)
def b_last_numbers : Ss := (.cons (.asg (.name 2) (.dc true (.loc 6) (.loc 8) (.tup (.cons (.name 6) (.cons (.name 8) (.cons (.name 9) (.cons (.name 10) .nil))))) (.seq (.attr (.loc 0) "bands")) .no)) c_last_numbers_2)
def n_last_numbers : Nat := 11
def b_last_colours : Ss := (.cons (.ret (.bi true .tuple (.cons (.lc true (.ite (.cmp .Is (.loc 2) (.const .non)) (.const .non) (.sub (.sub (.loc 1) (.loc 2)) (.const (.int 1)))) (.name 2) (.seq (.call "last_numbers" (.cons (.loc 0) (.cons (.loc 1) .nil)) [])) .no) .nil))) .nil)
def n_last_colours : Nat := 3
def c_painted_0 : Ss := (.cons (.ret (.meth .join (.const (.str [])) (.cons (.lc true (.ite (.cmp .Is (.loc 4) (.const .non)) (.loc 3) (.loc 4)) (.tup (.cons (.name 3) (.cons (.name 4) .nil))) (.zip (.loc 1) (.call "last_colours" (.cons (.loc 0) (.cons (.loc 2) .nil)) [])) .no) .nil))) .nil)
def c_painted_1 : Ss := (.cons (.expr (.call "check_history" (.cons (.loc 0) (.cons (.loc 2) .nil)) [])) c_painted_0)
def c_painted_2 : Ss := (.cons (.expr (.call "check_picture" (.cons (.loc 0) (.cons (.loc 1) .nil)) [])) c_painted_1)
def b_painted : Ss := (.cons (.expr (.call "check_board" (.cons (.loc 0) .nil) [])) c_painted_2)
def n_painted : Nat := 5
end G
namespace G
open PySem L2
def c_cell_0 : Ss := (.cons (.ret (.loc 2)) .nil)
def c_cell_1 : Ss := (.cons (.for (.name 3) (.seq (.sl (.loc 0) .no (.yes (.const (.int 4))))) (.cons (.asg (.name 2) (.bin .Mod (.bin .Add (.bin .Mult (.loc 2) (.const (.int 30011))) (.loc 3)) (.const (.int 1000000181)))) .nil)) c_cell_0)
def c_cell_2 : Ss := (.cons (.asg (.name 2) (.bin .Mod (.bin .Mult (.const (.int 40009)) (.bin .Add (.bin .Add (.bin .Mult (.loc 1) (.loc 1)) (.bin .Mult (.const (.int 11)) (.loc 1))) (.const (.int 7)))) (.const (.int 1000000181)))) c_cell_1)
def b_cell : Ss := (.cons (.ife (.cmp .Lt (.loc 1) (.bi true .len (.cons (.loc 0) .nil))) (.cons (.ret (.sub (.loc 0) (.loc 1))) .nil) .nil) c_cell_2)
def n_cell : Nat := 4
def b_purse : Ss := (.cons (.ret (.lst false (.cons (.bin .Add (.bin .Mult (.bin .Mod (.loc 0) (.const (.int 1000000181))) (.const (.int 5003))) (.const (.int 3001))) (.cons (.sub (.lst true (.cons (.const (.int 0)) (.cons (.loc 0) .nil))) (.bi true .int (.cons (.cmp .GtE (.loc 0) (.bin .Pow (.const (.int 10)) (.const (.int 18)))) .nil))) (.cons (.const (.int 0)) .nil))))) .nil)
def n_purse : Nat := 1
def c_pick_0 : Ss := (.cons (.ret (.loc 3)) .nil)
def c_pick_1 : Ss := (.cons (.asg (.sub (.loc 0) (.const (.int 1))) (.bin .FloorDiv (.sub (.loc 0) (.const (.int 1))) (.loc 1))) c_pick_0)
def c_pick_2 : Ss := (.cons (.ret (.bin .Mod (.bin .FloorDiv (.bin .Mod (.sub (.loc 0) (.const (.int 0))) (.const (.int 1000000181))) (.const (.int 16))) (.loc 1))) .nil)
def c_pick_3 : Ss := (.cons (.ife (.cmp .Gt (.sub (.loc 0) (.const (.int 1))) (.const (.int 0))) (.cons (.asg (.name 3) (.bin .Mod (.sub (.loc 0) (.const (.int 1))) (.loc 1))) c_pick_1) .nil) c_pick_2)
def c_pick_4 : Ss := (.cons (.asg (.sub (.loc 0) (.const (.int 0))) (.bin .Add (.bin .Mult (.loc 2) (.bin .Add (.bin .Mod (.loc 2) (.const (.int 50021))) (.const (.int 10007)))) (.bin .Mult (.const (.int 70001)) (.sub (.loc 0) (.const (.int 2)))))) c_pick_3)
def c_pick_5 : Ss := (.cons (.asg (.name 2) (.bin .Mod (.sub (.loc 0) (.const (.int 0))) (.const (.int 1000000181)))) c_pick_4)
def b_pick : Ss := (.cons (.asg (.sub (.loc 0) (.const (.int 2))) (.bin .Add (.sub (.loc 0) (.const (.int 2))) (.const (.int 1)))) c_pick_5)
def n_pick : Nat := 4
def c_calls_0 (f0 : Str) : Ss := (.cons (.ret (.lc true (.bin .Add (.bin .Add (.sl (.loc 4) .no (.yes (.loc 7))) (.sub (.loc 3) (.bin .Mod (.bin .Add (.loc 8) (.bin .Mult (.loc 6) (.loc 9))) (.const (.int 26))))) (.sl (.loc 4) (.yes (.loc 7)) .no)) (.name 9) (.range (.cons (.loc 1) .nil)) .no)) .nil)
def c_calls_1 (f0 : Str) : Ss := (.cons (.asg (.tup (.cons (.name 7) (.cons (.name 8) .nil))) (.tup (.cons (.call f0 (.cons (.loc 0) (.cons (.bin .Add (.bi true .len (.cons (.loc 4) .nil)) (.const (.int 1))) .nil)) []) (.cons (.call f0 (.cons (.loc 0) (.cons (.const (.int 26)) .nil)) []) .nil)))) (c_calls_0 f0))
def c_calls_2 (f0 : Str) : Ss := (.cons (.asg (.name 4) (.meth .join (.const (.str [])) (.cons (.lc true (.sub (.loc 3) (.call f0 (.cons (.loc 0) (.cons (.const (.int 26)) .nil)) [])) (.name 9) (.range (.cons (.call f0 (.cons (.loc 0) (.cons (.const (.int 6)) .nil)) []) .nil)) .no) .nil))) (c_calls_1 f0))
def c_calls_3 (f0 : Str) : Ss := (.cons (.asg (.name 3) (.const (.str [97, 98, 99, 100, 101, 102, 103, 104, 105, 106, 107, 108, 109, 110, 111, 112, 113, 114, 115, 116, 117, 118, 119, 120, 121, 122]))) (c_calls_2 f0))
def c_calls_4 (f0 : Str) : Ss := (.cons (.ife (.cmp .Eq (.call f0 (.cons (.loc 0) (.cons (.const (.int 4)) .nil)) []) (.const (.int 1))) (.cons (.ret (.lc true (.sub (.loc 2) (.bin .Mod (.bin .Add (.loc 5) (.bin .Mult (.loc 6) (.loc 9))) (.const (.int 12)))) (.name 9) (.range (.cons (.loc 1) .nil)) .no)) .nil) .nil) (c_calls_3 f0))
def c_calls_5 (f0 : Str) : Ss := (.cons (.asg (.tup (.cons (.name 5) (.cons (.name 6) .nil))) (.tup (.cons (.call f0 (.cons (.loc 0) (.cons (.const (.int 12)) .nil)) []) (.cons (.sub (.lst true (.cons (.const (.int 1)) (.cons (.const (.int 5)) (.cons (.const (.int 7)) (.cons (.const (.int 11)) .nil))))) (.call f0 (.cons (.loc 0) (.cons (.const (.int 4)) .nil)) [])) .nil)))) (c_calls_4 f0))
def b_calls (f0 : Str) : Ss := (.cons (.asg (.name 2) (.lst true (.cons (.const (.str [112, 97, 105, 110, 116])) (.cons (.const (.str [119, 97, 120])) (.cons (.const (.str [115, 99, 114, 97, 112, 101])) (.cons (.const (.str [98, 97, 99, 107])) (.cons (.const (.str [98, 111, 97, 114, 100])) (.cons (.const (.str [98, 97, 110, 100])) (.cons (.const (.str [119, 97, 121])) (.cons (.const (.str [99, 111, 114, 101])) (.cons (.const (.str [110, 111, 110, 101])) (.cons (.const (.str [97])) (.cons (.const (.str [97, 116])) (.cons (.const (.str [108, 111, 103])) .nil)))))))))))))) (c_calls_5 f0))
def n_calls : Nat := 10
def c_area_0 (f0 : Str) : Ss := (.cons (.ret (.rngT (.cons (.loc 6) (.cons (.bin .Add (.loc 6) (.loc 2)) .nil)))) .nil)
def c_area_1 (f0 : Str) : Ss := (.cons (.ret (.bi true .tuple (.cons (.lc true (.loc 11) (.name 11) (.range (.cons (.loc 5) .nil)) (.yes (.bool .And (.cons (.cmp2 .LtE .LtE (.loc 7) (.bin .FloorDiv (.loc 11) (.loc 2)) (.loc 9)) (.cons (.cmp2 .LtE .LtE (.loc 8) (.bin .Mod (.loc 11) (.loc 2)) (.loc 10)) .nil))))) .nil))) .nil)
def c_area_2 (f0 : Str) : Ss := (.cons (.asg (.tup (.cons (.name 9) (.cons (.name 10) .nil))) (.tup (.cons (.bin .Add (.loc 7) (.call f0 (.cons (.loc 0) (.cons (.bin .Sub (.loc 1) (.loc 7)) .nil)) [])) (.cons (.bin .Add (.loc 8) (.call f0 (.cons (.loc 0) (.cons (.bin .Sub (.loc 2) (.loc 8)) .nil)) [])) .nil)))) (c_area_1 f0))
def c_area_3 (f0 : Str) : Ss := (.cons (.ret (.ite (.cmp .NotEq (.loc 3) (.lst true .nil)) (.bi true .tuple (.cons (.loc 3) .nil)) (.tup (.cons (.call f0 (.cons (.loc 0) (.cons (.loc 5) .nil)) []) .nil)))) .nil)
def c_area_4 (f0 : Str) : Ss := (.cons (.asg (.name 3) (.lc true (.loc 11) (.name 11) (.range (.cons (.loc 5) .nil)) (.yes (.cmp .Eq (.call f0 (.cons (.loc 0) (.cons (.const (.int 3)) .nil)) []) (.const (.int 0)))))) (c_area_3 f0))
def c_area_5 (f0 : Str) : Ss := (.cons (.ife (.cmp .Eq (.loc 4) (.const (.int 2))) (.cons (.asg (.tup (.cons (.name 7) (.cons (.name 8) .nil))) (.tup (.cons (.call f0 (.cons (.loc 0) (.cons (.loc 1) .nil)) []) (.cons (.call f0 (.cons (.loc 0) (.cons (.loc 2) .nil)) []) .nil)))) (c_area_2 f0)) .nil) (c_area_4 f0))
def c_area_6 (f0 : Str) : Ss := (.cons (.ife (.cmp .Eq (.loc 4) (.const (.int 1))) (.cons (.ret (.rngT (.cons (.call f0 (.cons (.loc 0) (.cons (.loc 2) .nil)) []) (.cons (.loc 5) (.cons (.loc 2) .nil))))) .nil) .nil) (c_area_5 f0))
def c_area_7 (f0 : Str) : Ss := (.cons (.ife (.cmp .Eq (.loc 4) (.const (.int 0))) (.cons (.asg (.name 6) (.bin .Mult (.call f0 (.cons (.loc 0) (.cons (.loc 1) .nil)) []) (.loc 2))) (c_area_0 f0)) .nil) (c_area_6 f0))
def b_area (f0 : Str) : Ss := (.cons (.par 4 5 (.call f0 (.cons (.loc 0) (.cons (.const (.int 5)) .nil)) []) (.bin .Mult (.loc 1) (.loc 2))) (c_area_7 f0))
def n_area : Nat := 12
def c_dpots_0 (f0 : Str) : Ss := (.cons (.ret (.sl (.const (.str [114, 115, 116, 117, 118, 119])) (.yes (.loc 4)) (.yes (.bin .Add (.loc 4) (.loc 3))))) .nil)
def c_dpots_1 (f0 : Str) : Ss := (.cons (.asg (.name 4) (.call f0 (.cons (.loc 0) (.cons (.bin .Sub (.const (.int 6)) (.loc 3)) .nil)) [])) (c_dpots_0 f0))
def c_dpots_2 (f0 : Str) : Ss := (.cons (.asg (.name 3) (.bin .Add (.const (.int 1)) (.call f0 (.cons (.loc 0) (.cons (.loc 1) .nil)) []))) (c_dpots_1 f0))
def c_dpots_3 (f0 : Str) : Ss := (.cons (.ife (.cmp .Eq (.call f0 (.cons (.loc 0) (.cons (.const (.int 8)) .nil)) []) (.const (.int 5))) (.cons (.ret (.meth .join (.const (.str [])) (.cons (.sset true (.lc true (.sub (.loc 2) (.call f0 (.cons (.loc 0) (.cons (.const (.int 26)) .nil)) [])) (.name 5) (.range (.cons (.bin .Add (.const (.int 1)) (.call f0 (.cons (.loc 0) (.cons (.const (.int 6)) .nil)) [])) .nil)) .no)) .nil))) .nil) .nil) (c_dpots_2 f0))
def b_dpots (f0 : Str) : Ss := (.cons (.asg (.name 2) (.const (.str [97, 98, 99, 100, 101, 102, 103, 104, 105, 106, 107, 108, 109, 110, 111, 112, 113, 114, 115, 116, 117, 118, 119, 120, 121, 122]))) (c_dpots_3 f0))
def n_dpots : Nat := 6
def c_belts_0 (f0 f1 f2 f3 : Str) : Ss := (.cons (.expr (.meth .append (.loc 4) (.cons (.tup (.cons (.loc 5) (.cons (.loc 6) (.cons (.loc 7) (.cons (.bin .Add (.const (.int 1)) (.call f3 (.cons (.loc 0) (.cons (.sub (.lst true (.cons (.const (.int 1)) (.cons (.const (.int 3)) (.cons (.const (.int 9)) .nil)))) (.call f3 (.cons (.loc 0) (.cons (.const (.int 3)) .nil)) [])) .nil)) [])) .nil))))) .nil))) .nil)
def c_belts_1 (f0 f1 f2 f3 : Str) : Ss := (.cons (.ret (.bi true .tuple (.cons (.loc 4) .nil))) .nil)
def c_belts_2 (f0 f1 f2 f3 : Str) : Ss := (.cons (.for (.name 5) (.seq (.call f0 (.cons (.loc 0) (.cons (.loc 3) .nil)) [])) (.cons (.par 6 7 (.call f1 (.cons (.loc 0) (.cons (.loc 1) (.cons (.loc 2) .nil))) []) (.call f2 (.cons (.loc 0) (.cons (.sub (.lst true (.cons (.const (.int 1)) (.cons (.const (.int 2)) (.cons (.const (.int 3)) .nil)))) (.call f3 (.cons (.loc 0) (.cons (.const (.int 3)) .nil)) [])) .nil)) [])) (c_belts_0 f0 f1 f2 f3))) (c_belts_1 f0 f1 f2 f3))
def b_belts (f0 f1 f2 f3 : Str) : Ss := (.cons (.asg (.name 4) (.lst false .nil)) (c_belts_2 f0 f1 f2 f3))
def n_belts : Nat := 8
def c_story_0 (f0 : Str) : Ss := (.cons (.expr (.meth .append (.loc 3) (.cons (.tup (.cons (.loc 5) (.cons (.sub (.loc 7) (.call f0 (.cons (.loc 0) (.cons (.bi true .len (.cons (.loc 7) .nil)) .nil)) [])) .nil))) .nil))) .nil)
def c_story_1 (f0 : Str) : Ss := (.cons (.ret (.bi true .tuple (.cons (.loc 3) .nil))) .nil)
def c_story_2 (f0 : Str) : Ss := (.cons (.for (.name 4) (.range (.cons (.bin .Mult (.call f0 (.cons (.loc 0) (.cons (.bin .Add (.loc 2) (.const (.int 1))) .nil)) []) (.bi true .int (.cons (.cmp .NotEq (.loc 1) (.tup .nil)) .nil))) .nil)) (.cons (.asg (.tup (.cons (.name 5) (.cons (.name 6) (.cons (.name 7) (.cons (.name 8) .nil))))) (.sub (.loc 1) (.call f0 (.cons (.loc 0) (.cons (.bi true .len (.cons (.loc 1) .nil)) .nil)) []))) (c_story_0 f0))) (c_story_1 f0))
def b_story (f0 : Str) : Ss := (.cons (.asg (.name 3) (.lst false .nil)) (c_story_2 f0))
def n_story : Nat := 9
def b_view (f0 : Str) : Ss := (.cons (.ret (.meth .join (.const (.str [])) (.cons (.lc true (.sub (.const (.str [114, 115, 116, 122])) (.call f0 (.cons (.loc 0) (.cons (.const (.int 4)) .nil)) [])) (.name 2) (.range (.cons (.loc 1) .nil)) .no) .nil))) .nil)
def n_view : Nat := 3
def b_spots_of : Ss := (.cons (.ret (.sub (.sub (.lc true (.loc 2) (.name 2) (.seq (.loc 0)) (.yes (.cmp .Eq (.sub (.loc 2) (.const (.int 0))) (.loc 1)))) (.const (.int 0))) (.const (.int 1)))) .nil)
def n_spots_of : Nat := 3
def c_done_0 (f0 : Str) : Ss := (.cons (.ret (.meth .join (.const (.str [])) (.cons (.loc 3) .nil))) .nil)
def c_done_1 (f0 : Str) : Ss := (.cons (.for (.tup (.cons (.name 4) (.cons (.name 5) .nil))) (.seq (.loc 2)) (.cons (.for (.name 6) (.seq (.call f0 (.cons (.loc 0) (.cons (.loc 4) .nil)) [])) (.cons (.asg (.sub (.loc 3) (.loc 6)) (.loc 5)) .nil)) .nil)) (c_done_0 f0))
def b_done (f0 : Str) : Ss := (.cons (.asg (.name 3) (.bi false .list (.cons (.loc 1) .nil))) (c_done_1 f0))
def n_done : Nat := 7
end G
namespace G
open PySem L2
local macro_rules | `(tactic| simp_arith [$xs,*]) => `(tactic| simp only [wFn, wSs, wS, x_loc, x_const, x_glob, x_bin, x_neg, x_cmp, x_cmp2, x_bool, x_not, x_ite, x_bi, x_meth, x_attr, x_sub, x_sl, x_tup, x_lst, x_lc, x_sset, x_repl, x_dct, x_dc, x_rngT, x_rev, x_ssc, rv_tup, rv_lst, x_isiS, x_isiI, x_isiB, x_isiT, x_isiL, x_isiD, mkV, wB, wEs, wO, wTo, wI, wPs, wL, wLs, wG, wGs, lhsLen, esLen, pick, tgSlots, tgsSlots, wipeD, List.map_cons, List.map_nil, List.append_nil, List.nil_append, List.cons_append, List.length_cons, List.length_nil, Nat.reduceAdd, Nat.reduceSub, List.replicate, List.set_cons_zero, List.set_cons_succ, List.set_nil, List.getElem?_cons_zero, List.getElem?_cons_succ, Option.some.injEq, exists_eq_left', exists_eq_left, exists_eq_right, true_and, and_true, if_true, if_false, Bool.false_eq_true, reduceIte, List.getD_cons_zero, List.getD_cons_succ, tru_bl, tru_int, tru_non, D.bl.injEq, D.int.injEq, o_addI, o_subI, o_mulI, o_divI, o_modI, o_powI, o_addS, o_addL, o_addT, c_ltI, c_leI, c_gtI, c_geI, c_ltS, c_eqI, c_neI, c_eqS, c_neS, b_lenS, b_lenT, b_lenL, b_lenK, b_absI, b_maxI, b_minI, b_intI, b_intB, b_tupS, b_tupL, b_lstS, b_dvm, i_str, i_lst, i_tup, i_lsk, l_str, l_tup, l_lst, l_lsk, n_frz, n_obj, r_one, r_two, ak_non, ak_bl, ak_int, ak_str, ak_tup, ak_lst, ak_dct, kS_non, kS_bl, kS_int, kS_str, kS_tup, kS_lst, kS_dct, kS_ins, kS_obj, kI_non, kI_bl, kI_int, kI_str, kI_tup, kI_lst, kI_dct, kI_ins, kI_obj, kB_non, kB_bl, kB_int, kB_str, kB_tup, kB_lst, kB_dct, kB_ins, kB_obj, kT_non, kT_bl, kT_int, kT_str, kT_tup, kT_lst, kT_dct, kT_ins, kT_obj, kL_non, kD_non, kL_bl, kD_bl, kL_int, kD_int, kL_str, kD_str, kL_tup, kD_tup, kL_lst, kD_lst, kL_dct, kD_dct, kL_ins, kD_ins, c_inS, c_niS, c_inT, c_niT, c_inL, c_niL, c_is, c_isn, c_isB, i_dct, nn_non, nn_int, nn_str, nn_tup, nn_lst, b_tupT, b_rpr, decide_true, decide_false, Bool.not_true, Bool.not_false, Bool.and_true, Bool.true_and, Bool.and_false, Bool.false_and, $xs,*])
/-! P1: words and cells. -/
def abc : List Nat := [97, 98, 99, 100, 101, 102, 103, 104, 105, 106, 107, 108, 109, 110, 111, 112, 113, 114, 115, 116, 117, 118, 119, 120, 121, 122]
def szOk : D → Prop
  | .str s => s.length ≤ lim
  | .tup xs => xs.length ≤ lim
  | _ => True
section
variable {T : Tab}
def φ_is_whole : FSp := fun ds S Q E => match ds with
  | [x] => Ak S x ∧ Q (.bl (isIntD x && !isBlD x)) S
  | _ => False
theorem ok_is_whole : Ok T n_is_whole b_is_whole φ_is_whole := by
  intro ds S Q E hφ
  match ds, hφ with
  | [x], ⟨hk, q⟩ =>
    simp_arith [b_is_whole, n_is_whole]
    refine ⟨hk, ?_⟩
    cases hx : isIntD x with
    | false => exact ⟨S, Sub.refl S, by rw [hx] at q; exact q⟩
    | true => exact ⟨hk, S, Sub.refl S, by rw [hx] at q; exact q⟩
def withinB (x : D) (a b : Int) : Bool := match x with
  | .int i => decide (a ≤ i) && decide (i ≤ b)
  | _ => false
def φ_is_within : FSp := fun ds S Q E => match ds with
  | [x, .int a, .int b] => Ak S x ∧ Q (.bl (withinB x a b)) S
  | _ => False
theorem ok_is_within (f0 : T.Fn "is_whole" φ_is_whole) : Ok T n_is_within b_is_within φ_is_within := by
  intro ds S Q E hφ
  match ds, hφ with
  | [x, .int a, .int b], ⟨hk, q⟩ =>
    simp_arith [b_is_within, n_is_within, x_call f0, φ_is_whole]
    refine ⟨hk, ?_⟩
    cases x with
    | int i =>
      simp only [isIntD, isBlD, Bool.not_false, Bool.and_self, c_leI, D.bl.injEq, exists_eq_left']
      cases h : decide (a ≤ i) with
      | false => exact ⟨S, Sub.refl S, by simp only [withinB, h, Bool.false_and] at q; exact q⟩
      | true => exact ⟨S, Sub.refl S, by simp only [withinB, h, Bool.true_and] at q; exact q⟩
    | bl i => exact ⟨S, Sub.refl S, q⟩
    | _ => exact ⟨S, Sub.refl S, q⟩
/-! ### letters -/
def lettersB (x : D) (m : Int) : Bool := match x with
  | .str s => decide (1 ≤ (s.length : Int)) && decide ((s.length : Int) ≤ m) && s.all fun c => decide (c ∈ abc)
  | _ => false
def φ_are_letters : FSp := fun ds S Q E => match ds with
  | [x, .int m] => Ak S x ∧ szOk x ∧ Q (.bl (lettersB x m)) S
  | _ => False
theorem ok_are_letters (c0 : T.con "LETTERS" = some (.str abc)) : Ok T n_are_letters b_are_letters φ_are_letters := by
  intro ds S Q E hφ
  match ds, hφ with
  | [x, .int m], ⟨hk, hs, q⟩ =>
    simp_arith [b_are_letters, n_are_letters, c0]
    refine ⟨hk, ?_⟩
    cases x with
    | str s =>
      have hl : s.length ≤ lim := hs
      simp only [isStrD, b_lenS, c_leI, D.bl.injEq, exists_eq_left', tru_bl, Option.some.injEq]
      refine ⟨hl, ?_⟩
      cases e1 : decide (1 ≤ (s.length : Int)) with
      | false => exact ⟨S, Sub.refl S, by simp only [lettersB, e1, Bool.false_and] at q; exact q⟩
      | true =>
        simp only [if_true]
        cases e2 : decide ((s.length : Int) ≤ m) with
        | false => exact ⟨S, Sub.refl S, by simp only [lettersB, e1, e2, Bool.and_false, Bool.false_and] at q; exact q⟩
        | true =>
          refine ⟨_, rfl, ?_⟩
          refine wLc_pure (fun d => match d with | .str [c] => .bl (decide (c ∈ abc)) | _ => .non) (fun _ => true) trivial (fun d hd k1 k0 hk1 hk0 => ?_) ?_ ?_
          · obtain ⟨c, hc, rfl⟩ := List.mem_map.mp hd
            simp_arith [wFn]
            exact hk1 rfl
          · rw [List.length_map]; simpa using hl
          · rw [filter_all, List.nil_append, List.map_map]
            refine ⟨s.map fun c => decide (c ∈ abc), ?_, S, Sub.refl S, ?_⟩
            · rw [List.map_map]; rfl
            · simp only [lettersB, e1, e2, Bool.true_and] at q
              rw [List.all_map]
              exact q
    | _ => exact ⟨S, Sub.refl S, q⟩
def φ_lett (m : Int) : FSp := fun ds S Q E => match ds with
  | [x] => Ak S x ∧ szOk x ∧ Q (.bl (lettersB x m)) S
  | _ => False
theorem ok_is_name (f0 : T.Fn "are_letters" φ_are_letters) (c0 : T.con "MOST_NAME" = some (.int 6)) : Ok T n_is_name b_is_name (φ_lett 6) := by
  intro ds S Q E hφ
  match ds, hφ with
  | [x], ⟨hk, hs, q⟩ =>
    simp_arith [b_is_name, n_is_name, x_call f0, φ_are_letters, c0]
    exact ⟨hk, hs, S, Sub.refl S, q⟩
theorem ok_is_colour (f0 : T.Fn "are_letters" φ_are_letters) : Ok T n_is_colour b_is_colour (φ_lett 1) := by
  intro ds S Q E hφ
  match ds, hφ with
  | [x], ⟨hk, hs, q⟩ =>
    simp_arith [b_is_colour, n_is_colour, x_call f0, φ_are_letters]
    exact ⟨hk, hs, S, Sub.refl S, q⟩
/-! ### rising -/
def risS (s : List Nat) : Bool := (s.zip (s.drop 1)).all fun p => decide (p.1 < p.2)
def risI (s : List Int) : Bool := (s.zip (s.drop 1)).all fun p => decide (p.1 < p.2)
theorem one_lt {a b : Nat} : decide ([a] < [b]) = decide (a < b) := by
  apply decide_eq_decide.mpr
  constructor
  · intro h
    rcases List.cons_lt_cons_iff.mp h with h | ⟨_, h⟩
    · exact h
    · exact absurd h (List.lt_irrefl _)
  · intro h; exact List.cons_lt_cons_iff.mpr (.inl h)
theorem cut_one {α : Type} (s : List α) : cut s (some 1) none = s.drop 1 := by
  unfold cut
  have e1 : HT.sIx s.length 0 (some 1) = min 1 s.length := by unfold HT.sIx; simp
  have e2 : HT.sIx s.length s.length none = s.length := rfl
  rw [e1, e2]
  cases s with
  | nil => rfl
  | cons x r =>
    have : min 1 (x :: r).length = 1 := by simp
    rw [this]
    simp
def φ_is_rising : FSp := fun ds S Q E => match ds with
  | [.str s] => s.length ≤ lim ∧ Q (.bl (risS s)) S
  | [.tup xs] => ∃ is : List Int, xs = is.map .int ∧ xs.length ≤ lim ∧ Q (.bl (risI is)) S
  | _ => False
theorem ok_is_rising : Ok T n_is_rising b_is_rising φ_is_rising := by
  intro ds S Q E hφ
  match ds, hφ with
  | [.str s], ⟨hl, q⟩ =>
    simp_arith [b_is_rising, n_is_rising]
    refine ⟨hl, _, _, rfl, rfl, ?_⟩
    rw [cut_one]
    refine wLc_pure (fun d => match d with | .tup [.str [a], .str [b]] => .bl (decide (a < b)) | _ => .non) (fun _ => true) ⟨trivial, trivial⟩ (fun d hd k1 k0 hk1 hk0 => ?_) ?_ ?_
    · obtain ⟨p, hp, rfl⟩ := List.mem_map.mp hd
      rw [List.zip_map] at hp
      obtain ⟨q, hq, rfl⟩ := List.mem_map.mp hp
      obtain ⟨a, b⟩ := q
      have h1 := hk1 rfl
      refine ⟨rfl, .str [a], rfl, .str [b], rfl, ?_⟩
      show k1 (.bl (decide ([a] < [b]))) S
      rw [one_lt]
      exact h1
    · simp only [List.length_map, List.length_zip, List.length_drop, List.length_nil]
      omega
    · rw [filter_all, List.nil_append, List.map_map]
      refine ⟨(s.zip (s.drop 1)).map fun p => decide (p.1 < p.2), ?_, S, Sub.refl S, ?_⟩
      · rw [List.zip_map, List.map_map, List.map_map]; rfl
      · rw [List.all_map]
        exact q
  | [.tup xs], ⟨is, e, hl, q⟩ =>
    subst e
    simp_arith [b_is_rising, n_is_rising]
    refine ⟨_, _, rfl, rfl, ?_⟩
    rw [cut_one]
    refine wLc_pure (fun d => match d with | .tup [.int a, .int b] => .bl (decide (a < b)) | _ => .non) (fun _ => true) ⟨trivial, trivial⟩ (fun d hd k1 k0 hk1 hk0 => ?_) ?_ ?_
    · obtain ⟨p, hp, rfl⟩ := List.mem_map.mp hd
      rw [← List.map_drop, List.zip_map] at hp
      obtain ⟨q, hq, rfl⟩ := List.mem_map.mp hp
      obtain ⟨a, b⟩ := q
      exact ⟨rfl, .int a, rfl, .int b, rfl, hk1 rfl⟩
    · simp only [List.length_map, List.length_zip, List.length_drop, List.length_nil] at hl ⊢
      omega
    · rw [filter_all, List.nil_append, List.map_map, ← List.map_drop]
      refine ⟨(is.zip (is.drop 1)).map fun p => decide (p.1 < p.2), ?_, S, Sub.refl S, ?_⟩
      · rw [List.zip_map, List.map_map, List.map_map]; rfl
      · rw [List.all_map]
        exact q
def potsB (x : D) : Bool := lettersB x 6 && (match x with | .str s => risS s | _ => false)
def φ_are_pots : FSp := fun ds S Q E => match ds with
  | [x] => Ak S x ∧ szOk x ∧ Q (.bl (potsB x)) S
  | _ => False
theorem ok_are_pots (f0 : T.Fn "are_letters" φ_are_letters) (f1 : T.Fn "is_rising" φ_is_rising) (c0 : T.con "MOST_POTS" = some (.int 6)) : Ok T n_are_pots b_are_pots φ_are_pots := by
  intro ds S Q E hφ
  match ds, hφ with
  | [x], ⟨hk, hs, q⟩ =>
    simp_arith [b_are_pots, n_are_pots, x_call f0, x_call f1, φ_are_letters, c0]
    refine ⟨hk, hs, ?_⟩
    cases h : lettersB x 6 with
    | false =>
      unfold potsB at q
      rw [h] at q
      exact ⟨S, Sub.refl S, q⟩
    | true =>
      cases x with
      | str s =>
        refine ⟨hs, S, Sub.refl S, ?_⟩
        unfold potsB at q
        rw [h] at q
        exact q
      | _ => cases h
/-! ### cells -/
def cellsB (x : D) (n : Int) : Bool := match x with
  | .tup xs => (xs.all fun d => withinB d 0 (n - 1)) && risI (xs.map fun d => match d with | .int i => i | _ => 0)
  | _ => false
def akAll (S : Sto) : D → Prop
  | .tup xs => ∀ d ∈ xs, Ak S d
  | _ => True
def φ_are_cells : FSp := fun ds S Q E => match ds with
  | [x, .int n] => Ak S x ∧ szOk x ∧ akAll S x ∧ Q (.bl (cellsB x n)) S
  | _ => False
theorem within_int {d : D} {a b : Int} (h : withinB d a b = true) : ∃ i, d = .int i ∧ a ≤ i ∧ i ≤ b := by
  cases d <;> simp only [withinB, Bool.false_eq_true, Bool.and_eq_true, decide_eq_true_eq] at h
  exact ⟨_, rfl, h⟩
theorem all_int {xs : List D} {a b : Int} (h : (xs.all fun d => withinB d a b) = true) : xs = (xs.map fun d => match d with | .int i => i | _ => 0).map .int := by
  induction xs with
  | nil => rfl
  | cons x r ih =>
    rw [List.all_cons, Bool.and_eq_true] at h
    obtain ⟨i, rfl, _⟩ := within_int h.1
    rw [List.map_cons, List.map_cons, ← ih h.2]
theorem ok_are_cells (f0 : T.Fn "is_within" φ_is_within) (f1 : T.Fn "is_rising" φ_is_rising) : Ok T n_are_cells b_are_cells φ_are_cells := by
  intro ds S Q E hφ
  match ds, hφ with
  | [x, .int n], ⟨hk, hs, ha, q⟩ =>
    simp_arith [b_are_cells, n_are_cells, x_call f0, x_call f1, φ_is_within]
    refine ⟨hk, ?_⟩
    cases x with
    | tup xs =>
      refine ⟨_, rfl, ?_⟩
      refine wLc_pure (fun d => .bl (withinB d 0 (n - 1))) (fun _ => true) trivial (fun d hd k1 k0 hk1 hk0 => ?_) (by simpa using (show xs.length ≤ lim from hs)) ?_
      · simp_arith [wFn]
        exact ⟨ha d hd, hk1 rfl⟩
      rw [filter_all, List.nil_append]
      refine ⟨xs.map fun d => withinB d 0 (n - 1), by rw [List.map_map]; rfl, ?_⟩
      rw [all_id]
      cases h : xs.all (fun d => withinB d 0 (n - 1)) with
      | false =>
        simp only [cellsB, h, Bool.false_and] at q
        exact ⟨_, rfl, S, Sub.refl S, q⟩
      | true =>
        refine ⟨_, rfl, _, all_int h, hs, S, Sub.refl S, ?_⟩
        simp only [cellsB, h, Bool.true_and] at q
        exact q
    | _ => exact ⟨S, Sub.refl S, q⟩
end
end G
namespace G
open PySem L2
local macro_rules | `(tactic| simp_arith [$xs,*]) => `(tactic| simp only [wFn, wSs, wS, x_loc, x_const, x_glob, x_bin, x_neg, x_cmp, x_cmp2, x_bool, x_not, x_ite, x_bi, x_meth, x_attr, x_sub, x_sl, x_tup, x_lst, x_lc, x_sset, x_repl, x_dct, x_dc, x_rngT, x_rev, x_ssc, rv_tup, rv_lst, x_isiS, x_isiI, x_isiB, x_isiT, x_isiL, x_isiD, mkV, wB, wEs, wO, wTo, wI, wPs, wL, wLs, wG, wGs, lhsLen, esLen, pick, tgSlots, tgsSlots, wipeD, List.map_cons, List.map_nil, List.append_nil, List.nil_append, List.cons_append, List.length_cons, List.length_nil, Nat.reduceAdd, Nat.reduceSub, List.replicate, List.set_cons_zero, List.set_cons_succ, List.set_nil, List.getElem?_cons_zero, List.getElem?_cons_succ, Option.some.injEq, exists_eq_left', exists_eq_left, exists_eq_right, true_and, and_true, if_true, if_false, Bool.false_eq_true, reduceIte, List.getD_cons_zero, List.getD_cons_succ, tru_bl, tru_int, tru_non, D.bl.injEq, D.int.injEq, o_addI, o_subI, o_mulI, o_divI, o_modI, o_powI, o_addS, o_addL, o_addT, c_ltI, c_leI, c_gtI, c_geI, c_ltS, c_eqI, c_neI, c_eqS, c_neS, b_lenS, b_lenT, b_lenL, b_lenK, b_absI, b_maxI, b_minI, b_intI, b_intB, b_tupS, b_tupL, b_lstS, b_dvm, i_str, i_lst, i_tup, i_lsk, l_str, l_tup, l_lst, l_lsk, n_frz, n_obj, r_one, r_two, ak_non, ak_bl, ak_int, ak_str, ak_tup, ak_lst, ak_dct, kS_non, kS_bl, kS_int, kS_str, kS_tup, kS_lst, kS_dct, kS_ins, kS_obj, kI_non, kI_bl, kI_int, kI_str, kI_tup, kI_lst, kI_dct, kI_ins, kI_obj, kB_non, kB_bl, kB_int, kB_str, kB_tup, kB_lst, kB_dct, kB_ins, kB_obj, kT_non, kT_bl, kT_int, kT_str, kT_tup, kT_lst, kT_dct, kT_ins, kT_obj, kL_non, kD_non, kL_bl, kD_bl, kL_int, kD_int, kL_str, kD_str, kL_tup, kD_tup, kL_lst, kD_lst, kL_dct, kD_dct, kL_ins, kD_ins, c_inS, c_niS, c_inT, c_niT, c_inL, c_niL, c_is, c_isn, c_isB, i_dct, nn_non, nn_int, nn_str, nn_tup, nn_lst, b_tupT, b_rpr, decide_true, decide_false, Bool.not_true, Bool.not_false, Bool.and_true, Bool.true_and, Bool.and_false, Bool.false_and, $xs,*])
/-! P2: boards, pictures. -/
structure Band where
  name : List Nat
  cells : List Nat
  pots : List Nat
  cost : Nat
def cellsD (cs : List Nat) : List D := cs.map fun (c : Nat) => D.int c
def Band.d (b : Band) : D := .tup [.str b.name, .tup (cellsD b.cells), .str b.pots, .int b.cost]
def letters (s : List Nat) : Prop := ∀ c ∈ s, c ∈ abc
structure Band.Ok (n : Nat) (b : Band) : Prop where
  n0 : 1 ≤ b.name.length
  n6 : b.name.length ≤ 6
  nl : letters b.name
  c0 : b.cells ≠ []
  cn : ∀ c ∈ b.cells, c < n
  cr : b.cells.Pairwise (· < ·)
  p0 : 1 ≤ b.pots.length
  p6 : b.pots.length ≤ 6
  pl : letters b.pots
  pr : b.pots.Pairwise (· < ·)
  k0 : 1 ≤ b.cost
  k9 : b.cost ≤ 9
structure BOk (h w : Nat) (bs : List Band) : Prop where
  h0 : 1 ≤ h
  h6 : h ≤ 6
  w0 : 1 ≤ w
  w6 : w ≤ 6
  b12 : bs.length ≤ 12
  ok : ∀ b ∈ bs, b.Ok (h * w)
  nd : (bs.map (·.name)).Nodup
def brd (h w : Nat) (bs : List Band) : D := .ins "Board" ["high", "wide", "bands"] [.int h, .int w, .tup (bs.map Band.d)]
section
variable {T : Tab}
/-! ### plain facts -/
theorem ris_of {s : List Nat} (h : s.Pairwise (· < ·)) : risS s = true := by
  unfold risS
  induction s with
  | nil => rfl
  | cons a r ih =>
    rw [List.pairwise_cons] at h
    cases r with
    | nil => rfl
    | cons b r =>
      have e := ih h.2
      simp only [List.drop_succ_cons, List.drop_zero, List.zip_cons_cons, List.all_cons, Bool.and_eq_true, decide_eq_true_eq] at e ⊢
      exact ⟨h.1 b (by simp), e⟩
theorem risI_of {s : List Nat} (h : s.Pairwise (· < ·)) : risI (s.map fun (c : Nat) => (c : Int)) = true := by
  unfold risI
  induction s with
  | nil => rfl
  | cons a r ih =>
    rw [List.pairwise_cons] at h
    cases r with
    | nil => rfl
    | cons b r =>
      have e := ih h.2
      simp only [List.map_cons, List.drop_succ_cons, List.drop_zero, List.zip_cons_cons, List.all_cons, Bool.and_eq_true, decide_eq_true_eq] at e ⊢
      have := h.1 b (by simp)
      exact ⟨by omega, e⟩
theorem lett_of {s : List Nat} {m : Int} (h : letters s) (h1 : 1 ≤ s.length) (hm : (s.length : Int) ≤ m) : lettersB (.str s) m = true := by
  unfold lettersB
  simp only [Bool.and_eq_true, decide_eq_true_eq, List.all_eq_true]
  exact ⟨⟨by omega, hm⟩, h⟩
theorem cells_of {cs : List Nat} {n : Nat} (h1 : ∀ c ∈ cs, c < n) (h2 : cs.Pairwise (· < ·)) : cellsB (.tup (cellsD cs)) n = true := by
  unfold cellsB cellsD
  simp only [Bool.and_eq_true, List.all_eq_true, List.map_map]
  refine ⟨fun d hd => ?_, ?_⟩
  · obtain ⟨c, hc, rfl⟩ := List.mem_map.mp hd
    have := h1 c hc
    simp only [withinB, Bool.and_eq_true, decide_eq_true_eq]
    omega
  · exact risI_of h2
/-! ### bands -/
def bandB (x : D) (n : Int) : Bool := match x with
  | .tup [a, b, c, d] => lettersB a 6 && (cellsB b n && !(beq b (.tup []))) && (potsB c && withinB d 1 9)
  | _ => false
/-- what is asked of a thing that may be a band -/
def bandAk (S : Sto) (x : D) : Prop := Ak S x ∧ szOk x ∧ match x with
  | .tup [a, b, c, d] => (Ak S a ∧ szOk a) ∧ (Ak S b ∧ szOk b ∧ akAll S b) ∧ (Ak S c ∧ szOk c) ∧ Ak S d
  | _ => True
def φ_is_band : FSp := fun ds S Q E => match ds with
  | [x, .int n] => bandAk S x ∧ Q (.bl (bandB x n)) S
  | _ => False
theorem plain_ints {xs : List D} {a b : Int} (h : (xs.all fun d => withinB d a b) = true) : plains xs = true ∧ depths xs = 0 := by
  induction xs with
  | nil => exact ⟨rfl, rfl⟩
  | cons x r ih =>
    rw [List.all_cons, Bool.and_eq_true] at h
    obtain ⟨i, rfl, _⟩ := within_int h.1
    obtain ⟨e1, e2⟩ := ih h.2
    unfold plains depths
    rw [e1, e2]
    exact ⟨rfl, rfl⟩
theorem cells_plain {b : D} {n : Int} (h : cellsB b n = true) : plain b = true ∧ depth b ≤ 64 := by
  cases b <;> simp only [cellsB, Bool.false_eq_true, Bool.and_eq_true] at h
  obtain ⟨e1, e2⟩ := plain_ints h.1
  unfold plain depth
  rw [e1, e2]
  exact ⟨rfl, by decide⟩
theorem bandB_cut {xs : List D} {n : Int} (h : xs.length ≠ 4) : bandB (.tup xs) n = false := by
  match xs, h with
  | [], _ => rfl
  | [_], _ => rfl
  | [_, _], _ => rfl
  | [_, _, _], _ => rfl
  | [_, _, _, _], h => exact absurd rfl h
  | _ :: _ :: _ :: _ :: _ :: _, _ => rfl
theorem ok_is_band (f0 : T.Fn "is_name" (φ_lett 6)) (f1 : T.Fn "are_cells" φ_are_cells) (f2 : T.Fn "are_pots" φ_are_pots) (f3 : T.Fn "is_within" φ_is_within) (c0 : T.con "MOST_COST" = some (.int 9)) : Ok T n_is_band b_is_band φ_is_band := by
  intro ds S Q E hφ
  match ds, hφ with
  | [x, .int n], ⟨⟨hk, hs, hr⟩, q⟩ =>
    simp_arith [b_is_band, n_is_band]
    refine ⟨hk, ?_⟩
    cases x with
    | tup xs =>
      simp only [kT_tup, Bool.not_true, b_lenT, c_neI, Option.some.injEq, exists_eq_left', tru_bl]
      by_cases hl : xs.length = 4
      · match xs, hl, hr with
        | [a, b, c, d], _, ⟨⟨a1, a2⟩, ⟨b1, b2, b3⟩, ⟨d1, d2⟩, e1⟩ =>
          simp_arith [c_is_band_2]
          refine ⟨_, rfl, rfl, ?_⟩
          simp_arith [c_is_band_1, c_eq, x_call f0, x_call f1, x_call f2, x_call f3, c0, φ_lett, φ_are_cells]
          refine ⟨a1, a2, ?_⟩
          cases g1 : lettersB a 6 with
          | false => exact ⟨S, Sub.refl S, by simp only [bandB, g1, Bool.false_and] at q; exact q⟩
          | true =>
            simp only [Bool.not_true]
            refine ⟨b1, b2, b3, ?_⟩
            cases g2 : cellsB b n with
            | false => exact ⟨S, Sub.refl S, by simp only [bandB, g1, g2, Bool.false_and, Bool.and_false] at q; exact q⟩
            | true =>
              simp only [Bool.not_true]
              refine ⟨by decide, ⟨(cells_plain g2).1, rfl, (cells_plain g2).2, by decide⟩, ?_⟩
              cases g3 : beq b (.tup []) with
              | true => exact ⟨S, Sub.refl S, by simp only [bandB, g1, g2, g3, Bool.not_true, Bool.and_false, Bool.false_and] at q; exact q⟩
              | false =>
                simp only [Bool.false_eq_true, if_false]
                simp_arith [c_is_band_0, x_call f2, x_call f3, c0, φ_are_pots, φ_is_within]
                refine ⟨d1, d2, ?_⟩
                cases g4 : potsB c with
                | false => exact ⟨S, Sub.refl S, by simp only [bandB, g1, g2, g3, g4, Bool.not_false, Bool.and_true, Bool.true_and, Bool.false_and] at q; exact q⟩
                | true => exact ⟨e1, S, Sub.refl S, by simp only [bandB, g1, g2, g3, g4, Bool.not_false, Bool.and_true, Bool.true_and] at q; exact q⟩
      · rw [decide_eq_false (show ¬ ((xs.length : Int) = 4) by omega)]
        exact ⟨S, Sub.refl S, by rw [bandB_cut hl] at q; exact q⟩
    | _ => exact ⟨S, Sub.refl S, q⟩
theorem pots_of {s : List Nat} (h : letters s) (h1 : 1 ≤ s.length) (h6 : s.length ≤ 6) (hr : s.Pairwise (· < ·)) : potsB (.str s) = true := by
  unfold potsB
  rw [lett_of h h1 (by omega)]
  exact ris_of hr
theorem band_of {b : Band} {n : Nat} (h : b.Ok n) : bandB b.d n = true := by
  show (lettersB (.str b.name) 6 && (cellsB (.tup (cellsD b.cells)) n && !(beq (.tup (cellsD b.cells)) (.tup []))) && (potsB (.str b.pots) && withinB (.int b.cost) 1 9)) = true
  rw [lett_of h.nl h.n0 (by have := h.n6; omega), cells_of h.cn h.cr, pots_of h.pl h.p0 h.p6 h.pr]
  have e : beq (.tup (cellsD b.cells)) (.tup []) = false := by
    have := h.c0
    unfold cellsD
    cases hb : b.cells with
    | nil => exact absurd hb this
    | cons _ _ => rfl
  have e2 : withinB (.int b.cost) 1 9 = true := by
    have h1 := h.k0
    have h2 := h.k9
    simp only [withinB, Bool.and_eq_true, decide_eq_true_eq]
    omega
  rw [e, e2]
  rfl
theorem bounded_rise {n : Nat} : ∀ {cs : List Nat} {lo : Nat}, (∀ c ∈ cs, lo ≤ c ∧ c < n) → cs.Pairwise (· < ·) → cs.length ≤ n - lo
  | [], lo, _, _ => Nat.zero_le _
  | a :: r, lo, h, hp => by
    rw [List.pairwise_cons] at hp
    have h1 := h a (by simp)
    have := bounded_rise (n := n) (cs := r) (lo := a + 1) (fun c hc => ⟨hp.1 c hc, (h c (by simp [hc])).2⟩) hp.2
    rw [List.length_cons]
    omega
theorem Band.Ok.len {b : Band} {n : Nat} (h : b.Ok n) : b.cells.length ≤ n := by
  have := bounded_rise (n := n) (lo := 0) (fun c hc => ⟨Nat.zero_le _, h.cn c hc⟩) h.cr
  omega
theorem bandAk_of {b : Band} {n : Nat} {S : Sto} (h : b.Ok n) (hn : n ≤ 1000) : bandAk S b.d := by
  refine ⟨ak_tup.mpr trivial, ?_, ⟨ak_str.mpr trivial, ?_⟩, ⟨ak_tup.mpr trivial, ?_, ?_⟩, ⟨ak_str.mpr trivial, ?_⟩, ak_int.mpr trivial⟩
  · show 4 ≤ lim; decide
  · show b.name.length ≤ lim; have := h.n6; unfold lim; omega
  · show (cellsD b.cells).length ≤ lim; have := h.len; unfold lim cellsD; rw [List.length_map]; omega
  · intro d hd
    obtain ⟨c, hc, rfl⟩ := List.mem_map.mp hd
    exact ak_int.mpr trivial
  · show b.pots.length ≤ lim; have := h.p6; unfold lim; omega
theorem sub_name {b : Band} {S : Sto} {Q : QV} : subS b.d (.int 0) S Q = Q (.str b.name) S := by
  show (∃ xs d, some _ = some xs ∧ atI xs 0 = some d ∧ Q d S) = _
  simp only [Option.some.injEq, exists_and_left, exists_eq_left']
  show (∃ d, some (D.str b.name) = some d ∧ Q d S) = _
  simp
theorem sub_cells {b : Band} {S : Sto} {Q : QV} : subS b.d (.int 1) S Q = Q (.tup (cellsD b.cells)) S := by
  show (∃ xs d, some _ = some xs ∧ atI xs 1 = some d ∧ Q d S) = _
  simp only [Option.some.injEq, exists_and_left, exists_eq_left']
  show (∃ d, some (D.tup (cellsD b.cells)) = some d ∧ Q d S) = _
  simp
theorem sub_pots {b : Band} {S : Sto} {Q : QV} : subS b.d (.int 2) S Q = Q (.str b.pots) S := by
  show (∃ xs d, some _ = some xs ∧ atI xs 2 = some d ∧ Q d S) = _
  simp only [Option.some.injEq, exists_and_left, exists_eq_left']
  show (∃ d, some (D.str b.pots) = some d ∧ Q d S) = _
  simp
/-! ### boards -/
theorem BOk.n36 {h w : Nat} {bs : List Band} (k : BOk h w bs) : h * w ≤ 36 := Nat.mul_le_mul k.h6 k.w6
def φ_check_bands : FSp := fun ds S Q E => match ds with
  | [.tup xs, .int n] => ∃ (bs : List Band) (m : Nat), xs = bs.map Band.d ∧ n = m ∧ m ≤ 1000 ∧ bs.length ≤ 12 ∧ (∀ b ∈ bs, b.Ok m) ∧ (bs.map (·.name)).Nodup ∧ Q .non S
  | _ => False
theorem getK_names {ns : List (List Nat)} {x : List Nat} (h : x ∉ ns) : getK (ns.map fun s => (D.str s, D.bl true)) (.str x) = none := by
  unfold getK
  rw [List.find?_eq_none.mpr]
  · rfl
  · intro p hp
    obtain ⟨s, hs, rfl⟩ := List.mem_map.mp hp
    unfold keyB
    simp only [toKey, decide_eq_true_eq, Option.some.injEq, Sum.inr.injEq]
    intro e
    have := congrArg (fun z : Str => z.cps.toList) e
    simp only [mkS, List.toList_toArray] at this
    exact h (this ▸ hs)
theorem putK_names {ns : List (List Nat)} {x : List Nat} (h : x ∉ ns) : putKD (ns.map fun s => (D.str s, D.bl true)) (.str x) (.bl true) = (ns ++ [x]).map fun s => (D.str s, D.bl true) := by
  have e : (ns.map fun s => (D.str s, D.bl true)).any (keyB (.str x)) = false := by
    have := getK_names h
    unfold getK at this
    rw [Option.map_eq_none_iff, List.find?_eq_none] at this
    rw [Bool.eq_false_iff]
    intro hc
    obtain ⟨p, hp, hk⟩ := List.any_eq_true.mp hc
    exact this p hp hk
  unfold putKD
  rw [e, if_neg (by simp), List.map_append]
  rfl
theorem ok_check_bands (f0 : T.Fn "is_band" φ_is_band) (c0 : T.con "MOST_BANDS" = some (.int 12)) : Ok T n_check_bands b_check_bands φ_check_bands := by
  intro ds S Q E hφ
  match ds, hφ with
  | [.tup xs, .int n], h =>
    obtain ⟨bs, m, rfl, rfl, hm, h12, hb, nd, q⟩ := h
    have hl : (bs.length : Int) ≤ 12 := by omega
    simp_arith [b_check_bands, n_check_bands, c0, decide_eq_false (show ¬ ((12 : Int) < ((bs.map Band.d).length : Int)) by rw [List.length_map]; omega)]
    simp_arith [c_check_bands_2]
    intro a ha
    simp only [newDc, Bool.false_eq_true, if_false]
    refine ⟨Sto.set_same, by decide, rfl, List.nodup_nil, ?_⟩
    simp_arith [c_check_bands_1]
    refine ⟨_, rfl, ?_⟩
    rw [Sto.set_set]
    refine wFor_inv (fun i ρ S' => ∃ x3 x4, ρ = [some (.tup (bs.map Band.d)), some (.int m), some (.obj a), x3, x4] ∧ S' = S.set a (.dct ((bs.take i).map fun b => (D.str b.name, D.bl true)))) 0 ⟨_, _, rfl, rfl⟩ ?_ ?_
    · rintro j d ρ S' hj ⟨x3, x4, rfl, rfl⟩
      rw [List.getElem?_map, List.getElem?_zipIdx, List.getElem?_map] at hj
      cases hb' : bs[j]? with
      | none => rw [hb'] at hj; cases hj
      | some b =>
        rw [hb'] at hj
        cases hj
        refine ⟨trivial, fun nx hnx => ?_⟩
        have bm := List.mem_of_getElem? hb'
        have bo := hb b bm
        have ni : b.name ∉ (bs.take j).map (·.name) := by
          intro hc
          have hjl : j < bs.length := (List.getElem?_eq_some_iff.mp hb').1
          have hbj : bs[j] = b := (List.getElem?_eq_some_iff.mp hb').2
          rw [← List.take_append_drop j bs, List.map_append, List.nodup_append] at nd
          refine nd.2.2 _ hc b.name ?_ rfl
          rw [List.drop_eq_getElem_cons hjl, List.map_cons, hbj]
          simp
        have eg : ((bs.take (0 + j)).map fun b => (D.str b.name, D.bl true)) = ((bs.take j).map (·.name)).map fun s => (D.str s, D.bl true) := by
          rw [List.map_map, Nat.zero_add]; rfl
        simp_arith [x_call f0, φ_is_band]
        refine ⟨bandAk_of bo hm, ?_⟩
        rw [band_of bo]
        simp_arith [wFn]
        rw [sub_name, c_inO Sto.set_same, eg, getK_names ni]
        refine ⟨rfl, ?_⟩
        simp_arith [c_check_bands_0]
        rw [sub_name, put_dct' Sto.set_same, putK_names ni, Sto.set_set]
        refine ⟨rfl, ?_, hnx _ _ ⟨_, _, rfl, ?_⟩⟩
        · rw [List.length_map, List.length_map, List.length_take]; unfold lim; omega
        · congr 2
          rw [Nat.zero_add, List.take_add_one, hb', Option.toList_some, List.map_append, List.map_append, List.map_map]
          rfl
    · rintro ρ S' ⟨x3, x4, rfl, rfl⟩
      refine ⟨trivial, S, ?_, q⟩
      exact Sub.set_new ha
def bFs (h w : Nat) (bs : List Band) : List (Str × D) := [("high", .int h), ("wide", .int w), ("bands", .tup (bs.map Band.d))]
theorem bFs_eq (h w : Nat) (bs : List Band) : putD "bands" (.tup (bs.map Band.d)) (putD "wide" (.int w) (putD "high" (.int h) [])) = bFs h w bs := by
  have n1 : ¬ (("high" : Str) = "wide") := by decide +kernel
  have n2 : ¬ (("high" : Str) = "bands") := by decide +kernel
  have n3 : ¬ (("wide" : Str) = "bands") := by decide +kernel
  simp only [putD, if_neg n1, if_neg n2, if_neg n3, bFs]
def φ_Board_init : FSp := fun ds S Q E => match ds with
  | [.obj a, .int h, .int w, .tup xs] => ∃ (bs : List Band) (h' w' : Nat), h = h' ∧ w = w' ∧ xs = bs.map Band.d ∧ BOk h' w' bs ∧ S a = some (.ins "Board" []) ∧ Q .non (S.set a (.ins "Board" (bFs h' w' bs)))
  | _ => False
theorem Tab.Cl.at {C : Str} {fs : List Str} (h : T.Cl C fs) {f : Str} (hf : f ∈ fs) : f ∈ T.flds C := h f hf
theorem ok_Board_init (f0 : T.Fn "is_within" φ_is_within) (f1 : T.Fn "check_bands" φ_check_bands) (c0 : T.con "MOST_SIDE" = some (.int 6)) (k0 : T.Cl "Board" ["high", "wide", "bands"]) : Ok T n_Board_init b_Board_init φ_Board_init := by
  intro ds S Q E hφ
  match ds, hφ with
  | [.obj a, .int h, .int w, .tup xs], hh =>
    obtain ⟨bs, h', w', rfl, rfl, rfl, k, hS, q⟩ := hh
    have i1 : withinB (.int h') 1 6 = true := by
      have h1 := k.h0
      have h2 := k.h6
      simp only [withinB, Bool.and_eq_true, decide_eq_true_eq]; omega
    have i2 : withinB (.int w') 1 6 = true := by
      have h1 := k.w0
      have h2 := k.w6
      simp only [withinB, Bool.and_eq_true, decide_eq_true_eq]; omega
    simp_arith [b_Board_init, n_Board_init, x_call f0, c0, φ_is_within, i1]
    simp_arith [c_Board_init_4, x_call f0, c0, φ_is_within, i2]
    simp_arith [c_Board_init_3, x_call f1, φ_check_bands]
    refine ⟨.inl (by have := k.h6; omega), bs, h' * w', rfl, by simp, by have := k.n36; omega, k.b12, k.ok, k.nd, ?_⟩
    simp_arith [c_Board_init_2]
    refine ⟨a, _, _, rfl, hS, k0.at (by simp), by decide, ?_⟩
    simp_arith [c_Board_init_1]
    refine ⟨a, _, _, rfl, Sto.set_same, k0.at (by simp), by simp [putD], ?_⟩
    simp_arith [c_Board_init_0]
    refine ⟨a, _, _, rfl, Sto.set_same, k0.at (by simp), ?_, ?_⟩
    · simp only [putD]; split <;> simp
    · refine ⟨_, Sub.refl _, ?_⟩
      rw [Sto.set_set, Sto.set_set, bFs_eq]
      exact q
/-- Board(h, w, bands) -/
theorem brd_mk {h w : Nat} {bs : List Band} {a : Addr} {S : Sto} {Q : QV} {E : QX} (k : BOk h w bs) (ha : S a = none) (q : Q (brd h w bs) S) :
    φ_Board_init [.obj a, .int h, .int w, .tup (bs.map Band.d)] (S.set a (.ins "Board" [])) (fun d S2 => d = .non ∧ frz true a "Board" S2 Q) E := by
  refine ⟨bs, h, w, rfl, rfl, rfl, k, Sto.set_same, rfl, ?_⟩
  unfold frz
  rw [if_pos rfl, Sto.set_set]
  refine ⟨_, Sto.set_same, ?_⟩
  rw [Sto.del_set ha]
  exact q
/-! ### what is asked of a board -/
theorem brd_ins {S : Sto} {h w : Nat} {bs : List Band} : insOf S (brd h w bs) = some (("Board" : Str), bFs h w bs) := rfl
theorem ak_brd {S : Sto} {h w : Nat} {bs : List Band} : Ak S (brd h w bs) ↔ True := ⟨fun _ => trivial, fun _ => ⟨_, rfl, by decide +kernel⟩⟩
theorem isO_brd {S : Sto} {h w : Nat} {bs : List Band} : isO S "Board" (brd h w bs) = true := by
  unfold isO
  rw [brd_ins]
  show (("Board" : Str) == "Board") = true
  decide +kernel
theorem a_high {h w : Nat} {bs : List Band} {S : Sto} {P : D → Prop} (k0 : T.Cl "Board" ["high", "wide", "bands"]) : (∃ C fs d, insOf S (brd h w bs) = some (C, fs) ∧ ("high" : Str) ∈ T.flds C ∧ fs.lookup ("high" : Str) = some d ∧ P d) = P (.int h) := by
  apply propext
  constructor
  · rintro ⟨C, fs, d, e, _, l, q⟩
    rw [brd_ins] at e
    cases e
    have e2 : (bFs h w bs).lookup ("high" : Str) = some (.int h) := rfl
    rw [e2] at l
    cases l
    exact q
  · intro q
    exact ⟨_, _, _, brd_ins, k0.at (by simp), rfl, q⟩
theorem a_wide {h w : Nat} {bs : List Band} {S : Sto} {P : D → Prop} (k0 : T.Cl "Board" ["high", "wide", "bands"]) : (∃ C fs d, insOf S (brd h w bs) = some (C, fs) ∧ ("wide" : Str) ∈ T.flds C ∧ fs.lookup ("wide" : Str) = some d ∧ P d) = P (.int w) := by
  apply propext
  constructor
  · rintro ⟨C, fs, d, e, _, l, q⟩
    rw [brd_ins] at e
    cases e
    have e2 : (bFs h w bs).lookup ("wide" : Str) = some (.int w) := rfl
    rw [e2] at l
    cases l
    exact q
  · intro q
    exact ⟨_, _, _, brd_ins, k0.at (by simp), rfl, q⟩
theorem a_bands {h w : Nat} {bs : List Band} {S : Sto} {P : D → Prop} (k0 : T.Cl "Board" ["high", "wide", "bands"]) : (∃ C fs d, insOf S (brd h w bs) = some (C, fs) ∧ ("bands" : Str) ∈ T.flds C ∧ fs.lookup ("bands" : Str) = some d ∧ P d) = P (.tup (bs.map Band.d)) := by
  apply propext
  constructor
  · rintro ⟨C, fs, d, e, _, l, q⟩
    rw [brd_ins] at e
    cases e
    have e2 : (bFs h w bs).lookup ("bands" : Str) = some (.tup (bs.map Band.d)) := rfl
    rw [e2] at l
    cases l
    exact q
  · intro q
    exact ⟨_, _, _, brd_ins, k0.at (by simp), rfl, q⟩
theorem tyB (k0 : T.Cl "Board" ["high", "wide", "bands"]) : tyOk T (.o "Board") := ⟨⟨"high", k0.at (by simp)⟩, by decide +kernel⟩
def φ_check_board : FSp := fun ds S Q E => match ds with
  | [x] => ∃ h w bs, x = brd h w bs ∧ BOk h w bs ∧ Q .non S
  | _ => False
theorem ok_check_board (k0 : T.Cl "Board" ["high", "wide", "bands"]) : Ok T n_check_board b_check_board φ_check_board := by
  intro ds S Q E hφ
  match ds, hφ with
  | [x], h =>
    obtain ⟨h, w, bs, rfl, k, q⟩ := h
    simp_arith [b_check_board, n_check_board, x_isiO (tyB k0), ak_brd, isO_brd]
    exact ⟨S, Sub.refl S, q⟩
def coloursB (x : D) : Bool := match x with
  | .str s => s.all fun c => decide (c ∈ abc)
  | _ => false
def φ_are_colours : FSp := fun ds S Q E => match ds with
  | [x] => Ak S x ∧ szOk x ∧ Q (.bl (coloursB x)) S
  | _ => False
theorem colour_one (c : Nat) : lettersB (.str [c]) 1 = decide (c ∈ abc) := by
  simp [lettersB]
theorem ok_are_colours (f0 : T.Fn "is_colour" (φ_lett 1)) : Ok T n_are_colours b_are_colours φ_are_colours := by
  intro ds S Q E hφ
  match ds, hφ with
  | [x], ⟨hk, hs, q⟩ =>
    simp_arith [b_are_colours, n_are_colours]
    refine ⟨hk, ?_⟩
    cases x with
    | str s =>
      refine ⟨_, rfl, ?_⟩
      refine wLc_pure (fun d => .bl (lettersB d 1)) (fun _ => true) trivial (fun d hd k1 k0 hk1 hk0 => ?_) (by rw [List.length_map]; simpa using (show s.length ≤ lim from hs)) ?_
      · obtain ⟨c, hc, rfl⟩ := List.mem_map.mp hd
        simp_arith [x_call f0, φ_lett, szOk]
        exact ⟨by decide, hk1 rfl⟩
      · rw [filter_all, List.nil_append, List.map_map]
        refine ⟨s.map fun c => decide (c ∈ abc), ?_, S, Sub.refl S, ?_⟩
        · rw [List.map_map]
          exact List.map_congr_left fun c _ => congrArg D.bl (colour_one c)
        · rw [all_id]; exact q
    | _ => exact ⟨S, Sub.refl S, q⟩
def φ_how_many : FSp := fun ds S Q E => match ds with
  | [x] => ∃ h w bs, x = brd h w bs ∧ BOk h w bs ∧ Q (.int ((h * w : Nat) : Int)) S
  | _ => False
theorem ok_how_many (k0 : T.Cl "Board" ["high", "wide", "bands"]) : Ok T n_how_many b_how_many φ_how_many := by
  intro ds S Q E hφ
  match ds, hφ with
  | [x], h =>
    obtain ⟨h, w, bs, rfl, k, q⟩ := h
    simp_arith [b_how_many, n_how_many, a_high k0, a_wide k0]
    refine ⟨.inl (by have := k.h6; omega), S, Sub.refl S, ?_⟩
    rw [Int.natCast_mul] at q
    exact q
def picB (x : D) (n : Nat) : Bool := coloursB x && (match x with | .str s => decide (s.length = n) | _ => false)
def φ_is_picture : FSp := fun ds S Q E => match ds with
  | [x, y] => ∃ h w bs, x = brd h w bs ∧ BOk h w bs ∧ Ak S y ∧ szOk y ∧ Q (.bl (picB y (h * w))) S
  | _ => False
theorem beq_nat (a b : Nat) : beq (.int a) (.int b) = decide (a = b) := by
  unfold beq
  by_cases h : a = b
  · subst h; simp
  · rw [decide_eq_false h]; simpa using fun z => h (by omega)
theorem ok_is_picture (f0 : T.Fn "check_board" φ_check_board) (f1 : T.Fn "are_colours" φ_are_colours) (f2 : T.Fn "how_many" φ_how_many) : Ok T n_is_picture b_is_picture φ_is_picture := by
  intro ds S Q E hφ
  match ds, hφ with
  | [x, y], hh =>
    obtain ⟨h, w, bs, rfl, k, hk, hs, q⟩ := hh
    simp_arith [b_is_picture, n_is_picture, x_call f0, φ_check_board]
    refine ⟨h, w, bs, rfl, k, ?_⟩
    simp_arith [c_is_picture_0, x_call f1, φ_are_colours]
    refine ⟨hk, hs, ?_⟩
    cases hc : coloursB y with
    | false => exact ⟨S, Sub.refl S, by simp only [picB, hc, Bool.false_and] at q; exact q⟩
    | true =>
      cases y with
      | str s =>
        simp_arith [x_call f2, φ_how_many]
        refine ⟨hs, h, w, bs, rfl, k, S, Sub.refl S, ?_⟩
        simp only [picB, hc, Bool.true_and] at q
        rw [decide_eq_decide.mpr (Int.ofNat_inj (m := s.length) (n := h * w))]
        exact q
      | _ => cases hc
def φ_check_picture : FSp := fun ds S Q E => match ds with
  | [x, y] => ∃ h w bs s, x = brd h w bs ∧ BOk h w bs ∧ y = .str s ∧ letters s ∧ s.length = h * w ∧ Q .non S
  | _ => False
theorem pic_of {s : List Nat} {n : Nat} (h : letters s) (hl : s.length = n) : picB (.str s) n = true := by
  unfold picB coloursB
  simp only [Bool.and_eq_true, List.all_eq_true, decide_eq_true_eq]
  exact ⟨h, hl⟩
theorem ok_check_picture (f0 : T.Fn "is_picture" φ_is_picture) : Ok T n_check_picture b_check_picture φ_check_picture := by
  intro ds S Q E hφ
  match ds, hφ with
  | [x, y], hh =>
    obtain ⟨h, w, bs, s, rfl, k, rfl, hl, hn, q⟩ := hh
    simp_arith [b_check_picture, n_check_picture, x_call f0, φ_is_picture]
    refine ⟨h, w, bs, rfl, k, by show s.length ≤ lim; have := k.n36; unfold lim; omega, ?_⟩
    rw [pic_of hl hn]
    exact ⟨S, Sub.refl S, q⟩
end
end G
namespace G
open PySem L2
local macro_rules | `(tactic| simp_arith [$xs,*]) => `(tactic| simp only [wFn, wSs, wS, x_loc, x_const, x_glob, x_bin, x_neg, x_cmp, x_cmp2, x_bool, x_not, x_ite, x_bi, x_meth, x_attr, x_sub, x_sl, x_tup, x_lst, x_lc, x_sset, x_repl, x_dct, x_dc, x_rngT, x_rev, x_ssc, rv_tup, rv_lst, x_isiS, x_isiI, x_isiB, x_isiT, x_isiL, x_isiD, mkV, wB, wEs, wO, wTo, wI, wPs, wL, wLs, wG, wGs, lhsLen, esLen, pick, tgSlots, tgsSlots, wipeD, List.map_cons, List.map_nil, List.append_nil, List.nil_append, List.cons_append, List.length_cons, List.length_nil, Nat.reduceAdd, Nat.reduceSub, List.replicate, List.set_cons_zero, List.set_cons_succ, List.set_nil, List.getElem?_cons_zero, List.getElem?_cons_succ, Option.some.injEq, exists_eq_left', exists_eq_left, exists_eq_right, true_and, and_true, if_true, if_false, Bool.false_eq_true, reduceIte, List.getD_cons_zero, List.getD_cons_succ, tru_bl, tru_int, tru_non, D.bl.injEq, D.int.injEq, o_addI, o_subI, o_mulI, o_divI, o_modI, o_powI, o_addS, o_addL, o_addT, c_ltI, c_leI, c_gtI, c_geI, c_ltS, c_eqI, c_neI, c_eqS, c_neS, b_lenS, b_lenT, b_lenL, b_lenK, b_absI, b_maxI, b_minI, b_intI, b_intB, b_tupS, b_tupL, b_lstS, b_dvm, i_str, i_lst, i_tup, i_lsk, l_str, l_tup, l_lst, l_lsk, n_frz, n_obj, r_one, r_two, ak_non, ak_bl, ak_int, ak_str, ak_tup, ak_lst, ak_dct, kS_non, kS_bl, kS_int, kS_str, kS_tup, kS_lst, kS_dct, kS_ins, kS_obj, kI_non, kI_bl, kI_int, kI_str, kI_tup, kI_lst, kI_dct, kI_ins, kI_obj, kB_non, kB_bl, kB_int, kB_str, kB_tup, kB_lst, kB_dct, kB_ins, kB_obj, kT_non, kT_bl, kT_int, kT_str, kT_tup, kT_lst, kT_dct, kT_ins, kT_obj, kL_non, kD_non, kL_bl, kD_bl, kL_int, kD_int, kL_str, kD_str, kL_tup, kD_tup, kL_lst, kD_lst, kL_dct, kD_dct, kL_ins, kD_ins, c_inS, c_niS, c_inT, c_niT, c_inL, c_niL, c_is, c_isn, c_isB, i_dct, nn_non, nn_int, nn_str, nn_tup, nn_lst, b_tupT, b_rpr, decide_true, decide_false, Bool.not_true, Bool.not_false, Bool.and_true, Bool.true_and, Bool.and_false, Bool.false_and, $xs,*])
/-! P3: strokes and histories. -/
abbrev Stroke := List Nat × Nat
def strokeD (p : Stroke) : D := .tup [.str p.1, .str [p.2]]
def histD (hs : List Stroke) : D := .tup (hs.map strokeD)
def StOk (bs : List Band) (p : Stroke) : Prop := ∃ b ∈ bs, b.name = p.1 ∧ p.2 ∈ b.pots
def HsOk (bs : List Band) (hs : List Stroke) : Prop := hs.length ≤ 60 ∧ ∀ p ∈ hs, StOk bs p
def potHas (c ps : List Nat) : Bool := match c with
  | [x] => decide (x ∈ ps)
  | _ => false
section
variable {T : Tab}
def strokeB (bs : List Band) (y : D) : Bool := match y with
  | .tup [.str n, .str c] => bs.any fun b => decide (b.name = n) && potHas c b.pots
  | _ => false
def strokeAk (S : Sto) (y : D) : Prop := Ak S y ∧ szOk y ∧ match y with
  | .tup [a, b] => (Ak S a ∧ szOk a) ∧ (Ak S b ∧ szOk b)
  | _ => True
def φ_is_stroke : FSp := fun ds S Q E => match ds with
  | [x, y] => ∃ h w bs, x = brd h w bs ∧ BOk h w bs ∧ strokeAk S y ∧ Q (.bl (strokeB bs y)) S
  | _ => False
theorem strokeB_cut {bs : List Band} {xs : List D} (h : xs.length ≠ 2) : strokeB bs (.tup xs) = false := by
  match xs, h with
  | [], _ => rfl
  | [_], _ => unfold strokeB; split <;> first | rfl | (rename_i e; cases e)
  | [_, _], h => exact absurd rfl h
  | _ :: _ :: _ :: _, _ => unfold strokeB; split <;> first | rfl | (rename_i e; cases e)
theorem beq_str (a b : List Nat) : beq (.str a) (.str b) = (a == b) := by unfold beq; rfl
theorem ok_is_stroke (k0 : T.Cl "Board" ["high", "wide", "bands"]) : Ok T n_is_stroke b_is_stroke φ_is_stroke := by
  intro ds S Q E hφ
  match ds, hφ with
  | [x, y], hh =>
    obtain ⟨h, w, bs, rfl, k, ⟨hk, hs, hr⟩, q⟩ := hh
    simp_arith [b_is_stroke, n_is_stroke]
    refine ⟨hk, ?_⟩
    cases y with
    | tup xs =>
      simp only [kT_tup, Bool.not_true, b_lenT, c_neI, Option.some.injEq, exists_eq_left', tru_bl]
      by_cases hl : xs.length = 2
      · match xs, hl, hr with
        | [a, b], _, ⟨⟨a1, a2⟩, b1, b2⟩ =>
          simp_arith [wFn]
          refine ⟨_, rfl, ?_⟩
          refine wLc_pure (fun d => .bl (isStrD d)) (fun _ => true) trivial (fun d hd k1 k0 hk1 hk0 => ?_) (by show 2 ≤ lim; decide) ?_
          · simp_arith [wFn]
            have : Ak S d := by
              rcases List.mem_cons.mp hd with rfl | hd
              · exact a1
              · rw [List.mem_singleton.mp hd]; exact b1
            exact ⟨this, hk1 rfl⟩
          rw [filter_all, List.nil_append]
          refine ⟨[isStrD a, isStrD b], rfl, ?_⟩
          cases a with
          | str n =>
            cases b with
            | str c =>
              simp_arith [wFn]
              simp_arith [c_is_stroke_1]
              refine ⟨_, rfl, rfl, ?_⟩
              simp_arith [c_is_stroke_0, a_bands k0]
              refine ⟨_, rfl, ?_⟩
              refine wLc_pure (fun d => match d with | .tup [.str m, _, .str ps, _] => .bl (decide (m = n) && potHas c ps) | _ => .non) (fun _ => true) trivial (fun d hd k1 k0 hk1 hk0 => ?_) ?_ ?_
              · obtain ⟨b, hb, rfl⟩ := List.mem_map.mp hd
                have e1 := hk1 rfl
                simp_arith [Band.d]
                have e2 : k1 (.bl (decide (b.name = n) && potHas c b.pots)) S := e1
                cases hn : decide (b.name = n) with
                | false => rw [hn] at e2; exact e2
                | true =>
                  rw [hn] at e2
                  refine ⟨b2, ?_⟩
                  match c, b2, e2 with
                  | [], _, e2 => exact e2
                  | [x], _, e2 => exact e2
                  | x :: y :: r, _, e2 =>
                    rw [decide_eq_false (show ¬ (((x :: y :: r).length : Int) = 1) by simp only [List.length_cons]; omega)]
                    exact e2
              · rw [List.length_map]; have := k.b12; unfold lim; simp only [List.length_nil]; omega
              · rw [filter_all, List.nil_append, List.map_map]
                refine ⟨bs.map fun b => decide (b.name = n) && potHas c b.pots, ?_, S, Sub.refl S, ?_⟩
                · rw [List.map_map]; rfl
                · rw [any_id]; exact q
            | _ => exact ⟨_, rfl, S, Sub.refl S, q⟩
          | _ => exact ⟨_, rfl, S, Sub.refl S, q⟩
      · rw [decide_eq_false (show ¬ ((xs.length : Int) = 2) by omega)]
        exact ⟨S, Sub.refl S, by rw [strokeB_cut hl] at q; exact q⟩
    | _ => exact ⟨S, Sub.refl S, q⟩
theorem stroke_of {bs : List Band} {p : Stroke} (h : StOk bs p) : strokeB bs (strokeD p) = true := by
  obtain ⟨b, hb, e1, e2⟩ := h
  show (bs.any fun b => decide (b.name = p.1) && decide (p.2 ∈ b.pots)) = true
  rw [List.any_eq_true]
  exact ⟨b, hb, by rw [e1]; simpa using e2⟩
theorem strokeAk_of {bs : List Band} {n : Nat} {p : Stroke} {S : Sto} (hb : ∀ b ∈ bs, b.Ok n) (h : StOk bs p) : strokeAk S (strokeD p) := by
  obtain ⟨b, hm, e1, e2⟩ := h
  refine ⟨ak_tup.mpr trivial, by show 2 ≤ lim; decide, ⟨ak_str.mpr trivial, ?_⟩, ak_str.mpr trivial, by show 1 ≤ lim; decide⟩
  show p.1.length ≤ lim
  have := (hb b hm).n6
  rw [← e1]; unfold lim; omega
def φ_check_history : FSp := fun ds S Q E => match ds with
  | [x, y] => ∃ h w bs hs, x = brd h w bs ∧ BOk h w bs ∧ y = histD hs ∧ HsOk bs hs ∧ Q .non S
  | _ => False
theorem ok_check_history (f0 : T.Fn "is_stroke" φ_is_stroke) (c0 : T.con "MOST_STROKES" = some (.int 60)) : Ok T n_check_history b_check_history φ_check_history := by
  intro ds S Q E hφ
  match ds, hφ with
  | [x, y], hh =>
    obtain ⟨h, w, bs, hs, rfl, k, rfl, ho, q⟩ := hh
    simp_arith [b_check_history, n_check_history, histD, c0, decide_eq_false (show ¬ ((60 : Int) < ((hs.map strokeD).length : Int)) by rw [List.length_map]; have := ho.1; omega)]
    simp_arith [c_check_history_0]
    refine ⟨_, rfl, ?_⟩
    refine wFor_inv (fun i ρ S' => S' = S ∧ ∃ x2 x3, ρ = [some (brd h w bs), some (.tup (hs.map strokeD)), x2, x3]) 0 ⟨rfl, _, _, rfl⟩ ?_ ?_
    · rintro j d ρ S' hj ⟨rfl, x2, x3, rfl⟩
      rw [List.getElem?_map, List.getElem?_zipIdx, List.getElem?_map] at hj
      cases hp : hs[j]? with
      | none => rw [hp] at hj; cases hj
      | some p =>
        rw [hp] at hj
        cases hj
        refine ⟨trivial, fun nx hnx => ?_⟩
        have hm := ho.2 p (List.mem_of_getElem? hp)
        simp_arith [x_call f0, φ_is_stroke]
        refine ⟨h, w, bs, rfl, k, strokeAk_of k.ok hm, ?_⟩
        rw [stroke_of hm]
        exact hnx _ _ ⟨rfl, _, _, rfl⟩
    · rintro ρ S' ⟨rfl, x2, x3, rfl⟩
      exact ⟨trivial, S', Sub.refl S', q⟩
/-! ### who was last -/
def cellsFor (bs : List Band) (n : List Nat) : List Nat := match bs.find? (fun b => b.name == n) with
  | some b => b.cells
  | none => []
def setAll {α : Type} (xs : List α) (cs : List Nat) (v : α) : List α := cs.foldl (fun xs c => xs.set c v) xs
def lastN (bs : List Band) : List Stroke → Nat → List (Option Nat) → List (Option Nat)
  | [], _, xs => xs
  | p :: r, i, xs => lastN bs r (i + 1) (setAll xs (cellsFor bs p.1) (some i))
def optD : Option Nat → D
  | none => .non
  | some i => .int i
def lastNs (bs : List Band) (n : Nat) (hs : List Stroke) : List (Option Nat) := lastN bs hs 0 (List.replicate n none)
theorem cells_some {bs : List Band} {p : Stroke} (h : StOk bs p) : ∃ b ∈ bs, b.name = p.1 ∧ bs.find? (fun b => b.name == p.1) = some b := by
  obtain ⟨b, hb, e, _⟩ := h
  cases hf : bs.find? (fun b => b.name == p.1) with
  | none =>
    have := List.find?_eq_none.mp hf b hb
    simp [e] at this
  | some b' => exact ⟨b', List.mem_of_find?_eq_some hf, by simpa using List.find?_some hf, rfl⟩
theorem mkS_inj {a b : List Nat} (h : mkS a = mkS b) : a = b := by
  have := congrArg (fun z : Str => z.cps.toList) h
  simpa [mkS] using this
theorem getK_cells {bs : List Band} {n : List Nat} {b : Band} (h : bs.find? (fun b => b.name == n) = some b) : getK ((bs.map fun b => D.str b.name).zip (bs.map fun b => D.tup (cellsD b.cells))) (.str n) = some (.tup (cellsD b.cells)) := by
  unfold getK
  induction bs with
  | nil => cases h
  | cons a r ih =>
    rw [List.map_cons, List.map_cons, List.zip_cons_cons, List.find?_cons]
    rw [List.find?_cons] at h
    by_cases e : a.name = n
    · have e1 : keyB (.str n) (D.str a.name, D.tup (cellsD a.cells)) = true := by
        unfold keyB; rw [decide_eq_true_eq]; rw [e]
      have e2 : (a.name == n) = true := by simpa using e
      rw [e2] at h
      rw [e1]
      cases h
      rfl
    · have e1 : keyB (.str n) (D.str a.name, D.tup (cellsD a.cells)) = false := by
        unfold keyB; rw [decide_eq_false_iff_not]
        simp only [toKey, Option.some.injEq, Sum.inr.injEq]
        exact fun z => e (mkS_inj z)
      have e2 : (a.name == n) = false := by simpa using e
      rw [e2] at h
      rw [e1]
      exact ih h
theorem nodup_keys {bs : List Band} (h : (bs.map (·.name)).Nodup) : ((bs.map fun b => D.str b.name).map toKey).Nodup := by
  rw [List.map_map]
  have e : (bs.map (toKey ∘ fun b => D.str b.name)) = (bs.map (·.name)).map fun s => some (Sum.inr (mkS s) : Key) := by rw [List.map_map]; rfl
  rw [e]
  exact List.Pairwise.map _ (fun a b hab z => hab (mkS_inj (Sum.inr.inj (Option.some.inj z)))) h
theorem setAll_len {α : Type} (xs : List α) (cs : List Nat) (v : α) : (setAll xs cs v).length = xs.length := by
  unfold setAll
  induction cs generalizing xs with
  | nil => rfl
  | cons c r ih => rw [List.foldl_cons, ih, List.length_set]
theorem setAll_map {α β : Type} (f : α → β) (xs : List α) (cs : List Nat) (v : α) : (setAll xs cs v).map f = setAll (xs.map f) cs (f v) := by
  unfold setAll
  induction cs generalizing xs with
  | nil => rfl
  | cons c r ih => rw [List.foldl_cons, List.foldl_cons, ih, List.map_set]
theorem lastN_len (bs : List Band) (hs : List Stroke) : ∀ (i : Nat) (xs : List (Option Nat)), (lastN bs hs i xs).length = xs.length := by
  induction hs with
  | nil => intro i xs; rfl
  | cons p r ih => intro i xs; unfold lastN; rw [ih, setAll_len]
theorem lastN_snoc (bs : List Band) (hs : List Stroke) (p : Stroke) : ∀ (i : Nat) (xs : List (Option Nat)), lastN bs (hs ++ [p]) i xs = setAll (lastN bs hs i xs) (cellsFor bs p.1) (some (i + hs.length)) := by
  induction hs with
  | nil => intro i xs; rfl
  | cons a r ih =>
    intro i xs
    show lastN bs (r ++ [p]) (i + 1) _ = setAll (lastN bs r (i + 1) _) _ _
    rw [ih, List.length_cons]
    congr 2
    omega
theorem setAll_take {α : Type} (xs : List α) (cs : List Nat) (v : α) {i c : Nat} (h : cs[i]? = some c) : setAll xs (cs.take (i + 1)) v = (setAll xs (cs.take i) v).set c v := by
  unfold setAll
  rw [List.take_add_one, h, Option.toList_some, List.foldl_append]
  rfl
theorem lastN_take (bs : List Band) (hs : List Stroke) (n : Nat) {i : Nat} {p : Stroke} (h : hs[i]? = some p) : lastN bs (hs.take (i + 1)) 0 (List.replicate n none) = setAll (lastN bs (hs.take i) 0 (List.replicate n none)) (cellsFor bs p.1) (some i) := by
  have hi : i < hs.length := (List.getElem?_eq_some_iff.mp h).1
  rw [List.take_add_one, h, Option.toList_some, lastN_snoc, List.length_take]
  congr 2
  omega
theorem cellsD_get (cs : List Nat) (i : Nat) : (cellsD cs)[i]? = (cs[i]?).map fun (c : Nat) => D.int c := by unfold cellsD; rw [List.getElem?_map]
theorem ixN_nat {n c : Nat} (h : c < n) : ixN n (c : Int) = some c := by
  rw [ixN_of (by omega) (by omega)]
  rfl
def φ_last_numbers : FSp := fun ds S Q E => match ds with
  | [x, y] => ∃ h w bs hs, x = brd h w bs ∧ BOk h w bs ∧ y = histD hs ∧ HsOk bs hs ∧ Q (.tup ((lastNs bs (h * w) hs).map optD)) S
  | _ => False
theorem ok_last_numbers (k0 : T.Cl "Board" ["high", "wide", "bands"]) : Ok T n_last_numbers b_last_numbers φ_last_numbers := by
  intro ds S Q E hφ
  match ds, hφ with
  | [x, y], hh =>
    obtain ⟨h, w, bs, hs, rfl, k, rfl, ho, q⟩ := hh
    simp_arith [b_last_numbers, n_last_numbers, a_bands k0]
    refine ⟨_, rfl, ?_⟩
    refine wDc_pure (fun d => match d with | .tup [n, _, _, _] => n | _ => .non) (fun d => match d with | .tup [_, c, _, _] => c | _ => .non) trivial (fun d hd k1 k0 hk => ?_) (fun d hd => ?_) ?_ ?_ ?_
    · obtain ⟨b, hb, rfl⟩ := List.mem_map.mp hd
      simp_arith [Band.d]
      exact hk
    · obtain ⟨b, hb, rfl⟩ := List.mem_map.mp hd
      rfl
    · rw [List.length_map]; have := k.b12; unfold lim; simp only [List.length_nil]; omega
    · have e := nodup_keys k.nd
      rw [List.map_map] at e
      rw [List.map_nil, List.nil_append, List.map_map, List.map_map]
      exact e
    rw [List.nil_append, List.map_map]
    intro a0 ha0
    unfold newDc
    rw [if_pos rfl, List.map_map, List.map_map]
    have ed : S.del a0 = S := by
      funext b
      unfold Sto.del
      split
      · rename_i e; rw [e, ha0]
      · rfl
    rw [ed]
    have e1 : (bs.map ((fun p : D × D => p.1) ∘ (fun d => ((match d with | .tup [n, _, _, _] => n | _ => .non), (match d with | .tup [_, c, _, _] => c | _ => .non))) ∘ Band.d)) = bs.map fun b => D.str b.name := rfl
    have e2 : (bs.map ((fun p : D × D => p.2) ∘ (fun d => ((match d with | .tup [n, _, _, _] => n | _ => .non), (match d with | .tup [_, c, _, _] => c | _ => .non))) ∘ Band.d)) = bs.map fun b => D.tup (cellsD b.cells) := rfl
    rw [e1, e2]
    simp_arith [c_last_numbers_2, a_high k0, a_wide k0]
    refine ⟨by decide, .inl (by have := k.h6; omega), ((h * w : Nat) : Int), by simp, by have := k.n36; omega, by have := k.n36; omega, by have := k.n36; simp only [Int.toNat_natCast]; unfold lim; simp; omega, ?_⟩
    rw [n_obj]
    intro a ha
    have er : (List.replicate ((h * w : Nat) : Int).toNat [D.non]).flatten = (List.replicate (h * w) (none : Option Nat)).map optD := by
      rw [Int.toNat_natCast, List.map_replicate]
      show _ = List.replicate (h * w) D.non
      generalize h * w = m
      induction m with
      | zero => rfl
      | succ m ih => rw [List.replicate_succ, List.flatten_cons, ih, List.replicate_succ]; rfl
    rw [er]
    simp_arith [c_last_numbers_1, histD]
    refine ⟨_, rfl, ?_⟩
    refine wFor_inv (fun i ρ S' => S' = S.set a (.lst ((lastN bs (hs.take i) 0 (List.replicate (h * w) none)).map optD)) ∧ ∃ x5 x6 x7 x8, ρ = [some (brd h w bs), some (.tup (hs.map strokeD)), some (.dct (bs.map fun b => D.str b.name) (bs.map fun b => D.tup (cellsD b.cells))), some (.obj a), x5, x6, x7, x8, none, none, none]) 0 ⟨rfl, _, _, _, _, rfl⟩ ?_ ?_
    · rintro j d ρ S' hj ⟨rfl, x5, x6, x7, x8, rfl⟩
      rw [List.getElem?_map, List.getElem?_zipIdx, List.getElem?_map] at hj
      cases hp : hs[j]? with
      | none => rw [hp] at hj; cases hj
      | some p =>
        rw [hp] at hj
        cases hj
        refine ⟨trivial, fun nx hnx => ?_⟩
        obtain ⟨b, hb, en, hf⟩ := cells_some (ho.2 p (List.mem_of_getElem? hp))
        have ec : cellsFor bs p.1 = b.cells := by unfold cellsFor; rw [hf]
        simp_arith [strokeD]
        refine ⟨_, rfl, getK_cells hf, _, rfl, ?_⟩
        rw [Nat.zero_add]
        refine wFor_inv (fun i ρ S' => S' = S.set a (.lst ((setAll (lastN bs (hs.take j) 0 (List.replicate (h * w) none)) (b.cells.take i) (some j)).map optD)) ∧ ∃ x8, ρ = [some (brd h w bs), some (.tup (hs.map strokeD)), some (.dct (bs.map fun b => D.str b.name) (bs.map fun b => D.tup (cellsD b.cells))), some (.obj a), some (.int (j : Nat)), x8, some (.str p.1), some (.str [p.2]), none, none, none]) 0 ⟨rfl, _, rfl⟩ ?_ ?_
        · rintro i d ρ S' hi ⟨rfl, x8, rfl⟩
          rw [cellsD_get] at hi
          cases hc : b.cells[i]? with
          | none => rw [hc] at hi; cases hi
          | some c =>
            rw [hc] at hi
            cases hi
            refine ⟨trivial, fun nx2 hnx2 => ?_⟩
            have hcn := (k.ok b hb).cn c (List.mem_of_getElem? hc)
            simp_arith [wFn]
            rw [put_lst Sto.set_same]
            refine ⟨(c : Nat), c, rfl, ixN_nat ?_, hnx2 _ _ ⟨?_, _, rfl⟩⟩
            · rw [List.length_map, setAll_len, lastN_len, List.length_replicate]; exact hcn
            · rw [Sto.set_set, Nat.zero_add, setAll_take _ _ _ hc, List.map_set]; rfl
        · rintro ρ S' ⟨rfl, x8, rfl⟩
          refine ⟨trivial, hnx _ _ ⟨?_, _, _, _, _, rfl⟩⟩
          have e3 : (cellsD b.cells).length = b.cells.length := by unfold cellsD; rw [List.length_map]
          rw [Nat.zero_add, Nat.zero_add, lastN_take bs hs _ hp, ec, e3, List.take_length]
    · rintro ρ S' ⟨rfl, x5, x6, x7, x8, rfl⟩
      refine ⟨trivial, ?_⟩
      have e4 : 0 + ((hs.map strokeD).zipIdx.map fun p => D.tup [.int p.2, p.1]).length = hs.length := by simp
      rw [e4, List.take_length]
      simp_arith [c_last_numbers_0]
      refine ⟨_, seq_obj Sto.set_same, S, Sub.set_new ha, q⟩
/-- the colour of a stroke by its number -/
def colAt (hs : List Stroke) : Option Nat → Option Nat
  | none => none
  | some i => (hs[i]?).map (·.2)
def optC : Option Nat → D
  | none => .non
  | some c => .str [c]
def lastCs (bs : List Band) (n : Nat) (hs : List Stroke) : List (Option Nat) := (lastNs bs n hs).map (colAt hs)
theorem lastNs_len (bs : List Band) (n : Nat) (hs : List Stroke) : (lastNs bs n hs).length = n := by unfold lastNs; rw [lastN_len, List.length_replicate]
theorem setAll_mem {α : Type} {xs : List α} {cs : List Nat} {v x : α} (h : x ∈ setAll xs cs v) : x ∈ xs ∨ x = v := by
  unfold setAll at h
  induction cs generalizing xs with
  | nil => exact .inl h
  | cons c r ih =>
    rw [List.foldl_cons] at h
    rcases ih h with h | h
    · exact List.mem_or_eq_of_mem_set h
    · exact .inr h
theorem lastN_lt (bs : List Band) : ∀ (hs : List Stroke) (i : Nat) (xs : List (Option Nat)), (∀ o ∈ xs, ∀ j, o = some j → j < i) → ∀ o ∈ lastN bs hs i xs, ∀ j, o = some j → j < i + hs.length
  | [], i, xs, h, o, ho, j, e => h o ho j e
  | p :: r, i, xs, h, o, ho, j, e => by
    unfold lastN at ho
    have := lastN_lt bs r (i + 1) _ (fun o ho j e => by
      rcases setAll_mem ho with ho | ho
      · exact Nat.lt_succ_of_lt (h o ho j e)
      · rw [ho] at e; cases e; exact Nat.lt_succ_self _) o ho j e
    rw [List.length_cons]
    omega
theorem lastNs_lt {bs : List Band} {n : Nat} {hs : List Stroke} {j : Nat} (h : some j ∈ lastNs bs n hs) : j < hs.length := by
  have := lastN_lt bs hs 0 (List.replicate n none) (fun o ho j e => by rw [(List.mem_replicate.mp ho).2] at e; cases e) _ h j rfl
  omega
def φ_last_colours : FSp := fun ds S Q E => match ds with
  | [x, y] => ∃ h w bs hs, x = brd h w bs ∧ BOk h w bs ∧ y = histD hs ∧ HsOk bs hs ∧ Q (.tup ((lastCs bs (h * w) hs).map optC)) S
  | _ => False
theorem ok_last_colours (f0 : T.Fn "last_numbers" φ_last_numbers) : Ok T n_last_colours b_last_colours φ_last_colours := by
  intro ds S Q E hφ
  match ds, hφ with
  | [x, y], hh =>
    obtain ⟨h, w, bs, hs, rfl, k, rfl, ho, q⟩ := hh
    simp_arith [b_last_colours, n_last_colours, x_call f0, φ_last_numbers]
    refine ⟨h, w, bs, hs, rfl, k, rfl, ho, _, rfl, ?_⟩
    have hln := lastNs_len bs (h * w) hs
    refine wLc_pure (fun d => match d with | .int i => optC (colAt hs (some i.toNat)) | _ => .non) (fun _ => true) trivial (fun d hd k1 k0 hk1 hk0 => ?_) ?_ ?_
    · obtain ⟨o, hm, rfl⟩ := List.mem_map.mp hd
      cases o with
      | none => simp_arith [optD]; exact hk1 rfl
      | some i =>
        have hi := lastNs_lt hm
        have e1 := hk1 rfl
        simp_arith [optD, histD]
        have e2 : atI (hs.map strokeD) (i : Int) = some (strokeD hs[i]) := by rw [atI_nat _ _ (by rw [List.length_map]; exact hi), List.getElem_map]
        refine ⟨_, _, rfl, e2, ?_⟩
        unfold strokeD
        rw [i_tup]
        refine ⟨_, .str [hs[i].2], rfl, rfl, ?_⟩
        have e3 : optC (colAt hs (some ((i : Nat) : Int).toNat)) = .str [hs[i].2] := by
          rw [Int.toNat_natCast]
          show optC ((hs[i]?).map (·.2)) = _
          rw [List.getElem?_eq_getElem hi]
          rfl
        have e4 : k1 (optC (colAt hs (some ((i : Nat) : Int).toNat))) S := e1
        rw [e3] at e4
        exact e4
    · rw [List.length_map, hln]; have := k.n36; unfold lim; simp only [List.length_nil]; omega
    · rw [filter_all, List.nil_append, List.map_map]
      refine ⟨S, Sub.refl S, ?_⟩
      have e : (lastNs bs (h * w) hs).map ((fun d => match d with | .int i => optC (colAt hs (some i.toNat)) | _ => .non) ∘ optD) = (lastCs bs (h * w) hs).map optC := by
        unfold lastCs
        rw [List.map_map]
        refine List.map_congr_left fun o _ => ?_
        cases o with
        | none => rfl
        | some i => show optC (colAt hs (some ((i : Nat) : Int).toNat)) = _; rw [Int.toNat_natCast]; rfl
      rw [e]
      exact q
/-- the picture behind a history -/
def paintL (bs : List Band) (pic : List Nat) (hs : List Stroke) : List Nat := List.zipWith (fun s o => Option.getD o s) pic (lastCs bs pic.length hs)
def φ_painted : FSp := fun ds S Q E => match ds with
  | [x, y, z] => ∃ h w bs pic hs, x = brd h w bs ∧ BOk h w bs ∧ y = .str pic ∧ letters pic ∧ pic.length = h * w ∧ z = histD hs ∧ HsOk bs hs ∧ Q (.str (paintL bs pic hs)) S
  | _ => False
theorem jn_nil : ∀ ss : List (List Nat), jn [] ss = ss.flatten
  | [] => rfl
  | [p] => by simp [jn]
  | p :: q :: r => by
    unfold jn
    rw [jn_nil (q :: r)]
    simp
theorem flat_one {α : Type} (ts : List α) : (ts.map fun c => [c]).flatten = ts := by
  induction ts with
  | nil => rfl
  | cons c r ih => simp [ih]
theorem sum_one {α : Type} (ts : List α) : ((ts.map fun c => [c]).map List.length).sum = ts.length := by
  induction ts with
  | nil => rfl
  | cons c r ih => rw [List.map_cons, List.map_cons, List.sum_cons, ih]; simp; omega
/-- single signs glued -/
theorem join_signs {S : Sto} {Q : QV} {ts : List Nat} (hl : ts.length ≤ lim) (q : Q (.str ts) S) : meS .join (.str []) [.lst (ts.map fun c => .str [c])] S Q := by
  refine ⟨_, ts.map fun c => [c], rfl, by rw [List.map_map]; rfl, ?_, ?_⟩
  · rw [sum_one, List.length_nil, Nat.mul_zero, Nat.add_zero]; exact hl
  · rw [jn_nil, flat_one]; exact q
theorem ok_painted (f0 : T.Fn "check_board" φ_check_board) (f1 : T.Fn "check_picture" φ_check_picture) (f2 : T.Fn "check_history" φ_check_history) (f3 : T.Fn "last_colours" φ_last_colours) : Ok T n_painted b_painted φ_painted := by
  intro ds S Q E hφ
  match ds, hφ with
  | [x, y, z], hh =>
    obtain ⟨h, w, bs, pic, hs, rfl, k, rfl, hl, hn, rfl, ho, q⟩ := hh
    simp_arith [b_painted, n_painted, x_call f0, φ_check_board]
    refine ⟨h, w, bs, rfl, k, ?_⟩
    simp_arith [c_painted_2, x_call f1, φ_check_picture]
    refine ⟨h, w, bs, pic, rfl, k, rfl, hl, hn, ?_⟩
    simp_arith [c_painted_1, x_call f2, φ_check_history]
    refine ⟨h, w, bs, hs, rfl, k, rfl, ho, ?_⟩
    simp_arith [c_painted_0, x_call f3, φ_last_colours]
    refine ⟨trivial, h, w, bs, hs, rfl, k, rfl, ho, _, _, rfl, rfl, ?_⟩
    have hln : (lastCs bs (h * w) hs).length = h * w := by unfold lastCs; rw [List.length_map, lastNs_len]
    refine wLc_pure (fun d => match d with | .tup [s, .non] => s | .tup [_, c] => c | _ => .non) (fun _ => true) ⟨trivial, trivial⟩ (fun d hd k1 k0 hk1 hk0 => ?_) ?_ ?_
    · obtain ⟨p, hp, rfl⟩ := List.mem_map.mp hd
      rw [List.zip_map] at hp
      obtain ⟨⟨s, o⟩, _, rfl⟩ := List.mem_map.mp hp
      cases o with
      | none => simp_arith [optC, Prod.map]; exact hk1 rfl
      | some c => simp_arith [optC, Prod.map]; exact hk1 rfl
    · simp only [List.length_map, List.length_zip, List.length_nil, hln, hn]; have := k.n36; unfold lim; omega
    · rw [filter_all, List.nil_append, List.map_map, List.zip_map, List.map_map]
      have e : ((pic.zip (lastCs bs (h * w) hs)).map (((fun d => match d with | .tup [s, .non] => s | .tup [_, c] => c | _ => .non) ∘ fun p => D.tup [p.1, p.2]) ∘ Prod.map (fun c => D.str [c]) optC)) = (paintL bs pic hs).map fun c => .str [c] := by
        unfold paintL
        rw [hn, List.map_zipWith]
        rw [List.zip_eq_zipWith, List.map_zipWith]
        congr 1
        funext s o
        cases o <;> rfl
      rw [e]
      refine join_signs ?_ ⟨S, Sub.refl S, q⟩
      unfold paintL
      rw [List.length_zipWith, hn, hln]
      have := k.n36; unfold lim; omega
end
end G
namespace G
open PySem L2
local macro_rules | `(tactic| simp_arith [$xs,*]) => `(tactic| simp only [wFn, wSs, wS, x_loc, x_const, x_glob, x_bin, x_neg, x_cmp, x_cmp2, x_bool, x_not, x_ite, x_bi, x_meth, x_attr, x_sub, x_sl, x_tup, x_lst, x_lc, x_sset, x_repl, x_dct, x_dc, x_rngT, x_rev, x_ssc, rv_tup, rv_lst, x_isiS, x_isiI, x_isiB, x_isiT, x_isiL, x_isiD, mkV, wB, wEs, wO, wTo, wI, wPs, wL, wLs, wG, wGs, lhsLen, esLen, pick, tgSlots, tgsSlots, wipeD, List.map_cons, List.map_nil, List.append_nil, List.nil_append, List.cons_append, List.length_cons, List.length_nil, Nat.reduceAdd, Nat.reduceSub, List.replicate, List.set_cons_zero, List.set_cons_succ, List.set_nil, List.getElem?_cons_zero, List.getElem?_cons_succ, Option.some.injEq, exists_eq_left', exists_eq_left, exists_eq_right, true_and, and_true, if_true, if_false, Bool.false_eq_true, reduceIte, List.getD_cons_zero, List.getD_cons_succ, tru_bl, tru_int, tru_non, D.bl.injEq, D.int.injEq, o_addI, o_subI, o_mulI, o_divI, o_modI, o_powI, o_addS, o_addL, o_addT, c_ltI, c_leI, c_gtI, c_geI, c_ltS, c_eqI, c_neI, c_eqS, c_neS, b_lenS, b_lenT, b_lenL, b_lenK, b_absI, b_maxI, b_minI, b_intI, b_intB, b_tupS, b_tupL, b_lstS, b_dvm, i_str, i_lst, i_tup, i_lsk, l_str, l_tup, l_lst, l_lsk, n_frz, n_obj, r_one, r_two, ak_non, ak_bl, ak_int, ak_str, ak_tup, ak_lst, ak_dct, kS_non, kS_bl, kS_int, kS_str, kS_tup, kS_lst, kS_dct, kS_ins, kS_obj, kI_non, kI_bl, kI_int, kI_str, kI_tup, kI_lst, kI_dct, kI_ins, kI_obj, kB_non, kB_bl, kB_int, kB_str, kB_tup, kB_lst, kB_dct, kB_ins, kB_obj, kT_non, kT_bl, kT_int, kT_str, kT_tup, kT_lst, kT_dct, kT_ins, kT_obj, kL_non, kD_non, kL_bl, kD_bl, kL_int, kD_int, kL_str, kD_str, kL_tup, kD_tup, kL_lst, kD_lst, kL_dct, kD_dct, kL_ins, kD_ins, c_inS, c_niS, c_inT, c_niT, c_inL, c_niL, c_is, c_isn, c_isB, i_dct, nn_non, nn_int, nn_str, nn_tup, nn_lst, b_tupT, b_rpr, decide_true, decide_false, Bool.not_true, Bool.not_false, Bool.and_true, Bool.true_and, Bool.and_false, Bool.false_and, $xs,*])
/-! H1: what the laws draw: numbers, names, cells, pots. -/
section
variable {T : Tab} {f0 f1 f2 f3 : Str}
/-- a list of drawn things -/
theorem wLc_draw {α : Type} (P : Nat → α → Prop) (enc : α → D) {a : Addr} {set : D → Sl → (Sl → Prop) → Prop} {test : Sl → Sto → (Bool → Sto → Prop) → Prop} {elt : Sl → Sto → QV → Prop} {same : Sto → Prop} {ρ : Sl} {S : Sto} {ds : List D} {Q : List D → Sto → Prop} (hps : PS a S) (hl : ds.length < lim)
    (h : ∀ j d S', ds[j]? = some d → Kp a S S' → same S' ∧ ∀ (k1 : D → Sto → Prop) (k0 : Sto → Prop), (∀ x S2, P j x → Kp a S S2 → k1 (enc x) S2) → set d ρ fun ρ1 => test ρ1 S' fun b S1 => if b = true then elt ρ1 S1 k1 else k0 S1)
    (hq : ∀ (xs : List α) S', xs.length = ds.length → (∀ j x, xs[j]? = some x → P j x) → Kp a S S' → same S' ∧ Q (xs.map enc) S') : wLc set test elt same ρ ds [] S Q := by
  refine wLc_inv (fun i acc S' => ∃ xs : List α, acc = xs.map enc ∧ xs.length = i ∧ (∀ j x, xs[j]? = some x → P j x) ∧ Kp a S S') 0 ⟨[], rfl, rfl, (fun j x e => by simp at e), Kp.refl hps⟩ ?_ ?_ ?_
  · rintro j d acc S' hj ⟨xs, rfl, hxl, hP, hK⟩
    obtain ⟨h1, h2⟩ := h j d S' hj hK
    refine ⟨h1, fun k1 k0 hk1 hk0 => h2 k1 k0 fun x S2 px kp => hk1 _ _ ⟨xs ++ [x], by rw [List.map_append]; rfl, by rw [List.length_append, hxl]; rfl, fun i y hy => ?_, kp⟩⟩
    rw [Nat.zero_add] at hxl
    by_cases hi : i < xs.length
    · rw [List.getElem?_append_left hi] at hy; exact hP i y hy
    · rw [List.getElem?_append_right (by omega)] at hy
      have : i - xs.length = 0 := by
        have := (List.getElem?_eq_some_iff.mp hy).1
        simp at this
        omega
      rw [this] at hy
      simp at hy
      subst hy
      have : i = j := by omega
      rw [this]; exact px
  · rintro j acc S' hj ⟨xs, rfl, hxl, _, _⟩
    rw [List.length_map, hxl]; omega
  · rintro acc S' ⟨xs, rfl, hxl, hP, hK⟩
    rw [Nat.zero_add] at hxl
    exact hq xs S' hxl hP hK
def φ_cell : FSp := fun ds S Q E => match ds with
  | [x, .int k] => ∃ ns : List Int, x = .lsk (ns.map .int) ∧ ns.length ≤ 63 ∧ 0 ≤ k ∧ k ≤ 1000 ∧ ∀ z, Q (.int z) S
  | _ => False
theorem ok_cell : Ok T n_cell b_cell φ_cell := by
  intro ds S Q E hφ
  match ds, hφ with
  | [x, .int k], hh =>
    obtain ⟨ns, rfl, hn, k0, k1, q⟩ := hh
    simp_arith [b_cell, n_cell, List.length_map]
    by_cases hk : k < (ns.length : Int)
    · rw [decide_eq_true hk]
      obtain ⟨y, hy, e⟩ := atI_mem (l := ns.map D.int) k0 (by rw [List.length_map]; exact hk)
      obtain ⟨z, hz, rfl⟩ := List.mem_map.mp hy
      simp_arith [wFn]
      exact ⟨_, _, rfl, e, S, Sub.refl S, q z⟩
    · rw [decide_eq_false hk]
      simp_arith [c_cell_2]
      refine ⟨.inl (by omega), .inl (by omega), .inl (by omega), by omega, ?_⟩
      simp_arith [c_cell_1]
      refine ⟨_, rfl, ?_⟩
      refine wFor_inv (fun i ρ S' => S' = S ∧ ∃ s x3, ρ = [some (.lsk (ns.map .int)), some (.int k), some (.int s), x3]) 0 ⟨rfl, _, _, rfl⟩ ?_ ?_
      · rintro j d ρ S' hj ⟨rfl, s, x3, rfl⟩
        have hm := cut_mem (List.mem_of_getElem? hj)
        obtain ⟨z, hz, rfl⟩ := List.mem_map.mp hm
        refine ⟨trivial, fun nx hnx => ?_⟩
        simp_arith [wFn]
        exact ⟨.inr (by decide), by decide, hnx _ _ ⟨rfl, _, _, rfl⟩⟩
      · rintro ρ S' ⟨rfl, s, x3, rfl⟩
        refine ⟨trivial, ?_⟩
        simp_arith [c_cell_0]
        exact ⟨S', Sub.refl S', q s⟩
def φ_purse : FSp := fun ds S Q E => match ds with
  | [.int z] => ∀ b S', S b = none → PS b S' → (∀ c o, c ≠ b → S c = some o → S' c = some o) → Q (.obj b) S'
  | _ => False
theorem ok_purse : Ok T n_purse b_purse φ_purse := by
  intro ds S Q E hφ
  match ds, hφ with
  | [.int z], q =>
    simp_arith [b_purse, n_purse]
    have e : ∀ b : Bool, ∃ y, atI [D.int 0, D.int z] (if b = true then 1 else 0) = some (.int y) := by
      intro b; cases b
      · exact ⟨0, rfl⟩
      · exact ⟨z, rfl⟩
    refine ⟨by decide, .inr (by decide), by decide, by decide, by decide, by decide, ?_⟩
    obtain ⟨y, hy⟩ := e (decide ((10 : Int) ^ (18 : Int).toNat ≤ z))
    refine ⟨_, _, rfl, hy, by decide, ?_⟩
    intro b hb
    exact ⟨_, Sub.refl _, q b _ hb ⟨_, _, _, Sto.set_same⟩ fun c o n e => by rw [Sto.set_ne n]; exact e⟩
def φ_pick : FSp := fun ds S Q E => match ds with
  | [.obj a, .int n] => PS a S ∧ 0 < n ∧ n < 1073741824 ∧ ∀ (r : Nat) S', (r : Int) < n → Kp a S S' → Q (.int r) S'
  | _ => False
theorem ok_pick : Ok T n_pick b_pick φ_pick := by
  intro ds S Q E hφ
  match ds, hφ with
  | [.obj a, .int n], hh =>
    obtain ⟨⟨s, d, c, hS⟩, n0, n1, q⟩ := hh
    have fin : ∀ r s d c : Int, 0 ≤ r → r < n → Q (.int r) (S.set a (.lst [.int s, .int d, .int c])) := fun r s d c h0 h1 => by
      have := q r.toNat _ (by omega) (Kp.put (a := a) (S := S) s d c)
      rw [Int.toNat_of_nonneg h0] at this
      exact this
    simp_arith [b_pick, n_pick]
    rw [i_obj hS]
    refine ⟨2, _, rfl, rfl, ?_⟩
    simp_arith [wFn]
    rw [put_lst hS]
    refine ⟨2, 2, rfl, rfl, ?_⟩
    simp_arith [c_pick_5]
    rw [i_obj Sto.set_same]
    refine ⟨0, _, rfl, rfl, ?_⟩
    simp_arith [wFn]
    refine ⟨by decide, ?_⟩
    simp_arith [c_pick_4]
    have hm0 : 0 ≤ s % 1000000181 := Int.emod_nonneg _ (by decide)
    have hm1 : s % 1000000181 < 1000000181 := Int.emod_lt_of_pos _ (by decide)
    refine ⟨by decide, .inl (by omega), ?_⟩
    rw [i_obj Sto.set_same]
    refine ⟨2, _, rfl, rfl, ?_⟩
    simp_arith [wFn]
    refine ⟨.inl (by decide), ?_⟩
    rw [put_lst Sto.set_same]
    refine ⟨0, 0, rfl, rfl, ?_⟩
    rw [Sto.set_set]
    simp_arith [c_pick_3]
    rw [i_obj Sto.set_same]
    refine ⟨1, _, rfl, rfl, ?_⟩
    simp_arith [wFn]
    by_cases hd : 0 < d
    · rw [decide_eq_true hd]
      simp_arith [wFn]
      rw [i_obj Sto.set_same]
      refine ⟨1, _, rfl, rfl, ?_⟩
      simp_arith [wFn]
      refine ⟨n0, ?_⟩
      simp_arith [c_pick_1]
      rw [i_obj Sto.set_same]
      refine ⟨1, _, rfl, rfl, ?_⟩
      simp_arith [wFn]
      refine ⟨n0, n1, ?_⟩
      rw [put_lst Sto.set_same]
      refine ⟨1, 1, rfl, rfl, ?_⟩
      rw [Sto.set_set]
      simp_arith [c_pick_0]
      exact ⟨_, Sub.refl _, fin _ _ _ _ (Int.emod_nonneg _ (by omega)) (Int.emod_lt_of_pos _ n0)⟩
    · rw [decide_eq_false hd]
      simp_arith [c_pick_2]
      rw [i_obj Sto.set_same]
      refine ⟨0, _, rfl, rfl, ?_⟩
      simp_arith [wFn]
      exact ⟨by decide, by decide, by decide, n0, _, Sub.refl _, fin _ _ _ _ (Int.emod_nonneg _ (by omega)) (Int.emod_lt_of_pos _ n0)⟩
def φ_view : FSp := fun ds S Q E => match ds with
  | [.obj a, .int n] => PS a S ∧ ∃ m : Nat, n = m ∧ m ≤ 1000 ∧ ∀ s S', letters s → s.length = m → Kp a S S' → Q (.str s) S'
  | _ => False
theorem ok_view (h0 : T.Fn f0 φ_pick) : Ok T n_view (b_view f0) φ_view := by
  intro ds S Q E hφ
  match ds, hφ with
  | [.obj a, .int n], hh =>
    obtain ⟨hps, m, rfl, hm, q⟩ := hh
    simp_arith [b_view, n_view]
    refine ⟨trivial, by constructor <;> omega, ?_⟩
    have hlr : ((List.range (m : Int).toNat).map fun (k : Nat) => D.int (0 + k)).length = m := by simp
    refine wLc_draw (fun _ c => c ∈ abc) (fun c => .str [c]) hps (by rw [hlr]; unfold lim; omega) (fun j d S' hj hK => ⟨trivial, fun k1 k0 hk => ?_⟩) ?_
    · simp_arith [x_call h0, φ_pick]
      refine ⟨hK.1, by decide, by decide, fun r S2 hr hK2 => ?_⟩
      obtain ⟨y, hy, e⟩ := atI_mem (l := [114, 115, 116, 122]) (i := (r : Int)) (by omega) (by simpa using hr)
      refine ⟨by decide, y, e, hk y S2 ?_ (hK.trans hK2)⟩
      exact (by decide : ∀ y ∈ [114, 115, 116, 122], y ∈ abc) y hy
    · intro xs S' hl hP hK
      rw [hlr] at hl
      refine ⟨trivial, ?_⟩
      refine join_signs (by rw [hl]; unfold lim; omega) ?_
      refine ⟨_, Sub.refl _, q xs S' (fun c hc => ?_) hl hK⟩
      obtain ⟨i, hi, rfl⟩ := List.getElem_of_mem hc
      exact hP i _ (List.getElem?_eq_getElem hi)
end
end G
namespace G
open PySem L2
local macro_rules | `(tactic| simp_arith [$xs,*]) => `(tactic| simp only [wFn, wSs, wS, x_loc, x_const, x_glob, x_bin, x_neg, x_cmp, x_cmp2, x_bool, x_not, x_ite, x_bi, x_meth, x_attr, x_sub, x_sl, x_tup, x_lst, x_lc, x_sset, x_repl, x_dct, x_dc, x_rngT, x_rev, x_ssc, rv_tup, rv_lst, x_isiS, x_isiI, x_isiB, x_isiT, x_isiL, x_isiD, mkV, wB, wEs, wO, wTo, wI, wPs, wL, wLs, wG, wGs, lhsLen, esLen, pick, tgSlots, tgsSlots, wipeD, List.map_cons, List.map_nil, List.append_nil, List.nil_append, List.cons_append, List.length_cons, List.length_nil, Nat.reduceAdd, Nat.reduceSub, List.replicate, List.set_cons_zero, List.set_cons_succ, List.set_nil, List.getElem?_cons_zero, List.getElem?_cons_succ, Option.some.injEq, exists_eq_left', exists_eq_left, exists_eq_right, true_and, and_true, if_true, if_false, Bool.false_eq_true, reduceIte, List.getD_cons_zero, List.getD_cons_succ, tru_bl, tru_int, tru_non, D.bl.injEq, D.int.injEq, o_addI, o_subI, o_mulI, o_divI, o_modI, o_powI, o_addS, o_addL, o_addT, c_ltI, c_leI, c_gtI, c_geI, c_ltS, c_eqI, c_neI, c_eqS, c_neS, b_lenS, b_lenT, b_lenL, b_lenK, b_absI, b_maxI, b_minI, b_intI, b_intB, b_tupS, b_tupL, b_lstS, b_dvm, i_str, i_lst, i_tup, i_lsk, l_str, l_tup, l_lst, l_lsk, n_frz, n_obj, r_one, r_two, ak_non, ak_bl, ak_int, ak_str, ak_tup, ak_lst, ak_dct, kS_non, kS_bl, kS_int, kS_str, kS_tup, kS_lst, kS_dct, kS_ins, kS_obj, kI_non, kI_bl, kI_int, kI_str, kI_tup, kI_lst, kI_dct, kI_ins, kI_obj, kB_non, kB_bl, kB_int, kB_str, kB_tup, kB_lst, kB_dct, kB_ins, kB_obj, kT_non, kT_bl, kT_int, kT_str, kT_tup, kT_lst, kT_dct, kT_ins, kT_obj, kL_non, kD_non, kL_bl, kD_bl, kL_int, kD_int, kL_str, kD_str, kL_tup, kD_tup, kL_lst, kD_lst, kL_dct, kD_dct, kL_ins, kD_ins, c_inS, c_niS, c_inT, c_niT, c_inL, c_niL, c_is, c_isn, c_isB, i_dct, nn_non, nn_int, nn_str, nn_tup, nn_lst, b_tupT, b_rpr, decide_true, decide_false, Bool.not_true, Bool.not_false, Bool.and_true, Bool.true_and, Bool.and_false, Bool.false_and, $xs,*])
/-! H2: names, cells, pots, bands, histories that are drawn. -/
section
variable {T : Tab} {f0 f1 f2 f3 : Str}
theorem sIx_nat {n d c : Nat} : HT.sIx n d (some (c : Int)) = min c n := HT.sIx_nat n d c
theorem cut_take {α : Type} (s : List α) (c : Nat) : cut s none (some (c : Int)) = s.take c := by
  unfold cut
  rw [sIx_nat]
  show (s.drop 0).take (min c s.length - 0) = _
  rw [List.drop_zero, Nat.sub_zero, Nat.min_comm, List.take_eq_take_iff]
  omega
theorem cut_drop {α : Type} (s : List α) (c : Nat) : cut s (some (c : Int)) none = s.drop c := by
  unfold cut
  rw [sIx_nat]
  show (s.drop (min c s.length)).take (s.length - min c s.length) = _
  have e : s.drop (min c s.length) = s.drop c := by
    by_cases h : c ≤ s.length
    · rw [Nat.min_eq_left h]
    · rw [Nat.min_eq_right (by omega), List.drop_length, List.drop_eq_nil_of_le (by omega)]
  rw [e]
  refine List.take_of_length_le ?_
  rw [List.length_drop]
  omega
theorem cut_mid {α : Type} (s : List α) (c d : Nat) : cut s (some (c : Int)) (some (d : Int)) = (s.drop c).take (d - c) := by
  unfold cut
  rw [sIx_nat, sIx_nat]
  by_cases h : c ≤ s.length
  · rw [Nat.min_eq_left h, List.take_eq_take_iff, List.length_drop]
    omega
  · have e : min c s.length = s.length := by omega
    rw [e, List.drop_length, List.drop_eq_nil_of_le (show s.length ≤ c by omega), List.take_nil, List.take_nil]
/-! ### names -/
def ownNames : List (List Nat) := [[112, 97, 105, 110, 116], [119, 97, 120], [115, 99, 114, 97, 112, 101], [98, 97, 99, 107], [98, 111, 97, 114, 100], [98, 97, 110, 100], [119, 97, 121], [99, 111, 114, 101], [110, 111, 110, 101], [97], [97, 116], [108, 111, 103]]
def NameOk (s : List Nat) : Prop := 1 ≤ s.length ∧ s.length ≤ 6 ∧ letters s
theorem own_nd : ownNames.Nodup := by decide
theorem own_ok : ∀ s ∈ ownNames, NameOk s := by
  unfold NameOk letters
  decide
theorem abc_nd : abc.Nodup := by decide
theorem nodup_range {α : Type} {f : Nat → α} {m : Nat} (h : ∀ i j, i < m → j < m → f i = f j → i = j) : ((List.range m).map f).Nodup := by
  unfold List.Nodup
  rw [List.pairwise_map]
  refine List.Pairwise.imp_of_mem ?_ List.nodup_range
  intro i j hi hj hne e
  exact hne (h i j (List.mem_range.mp hi) (List.mem_range.mp hj) e)
theorem get_inj {α : Type} {l : List α} (h : l.Nodup) {i j : Nat} (hi : i < l.length) (hj : j < l.length) (e : l[i] = l[j]) : i = j := (List.getElem_inj h).mp e
def steps : List Int := [1, 5, 7, 11]
theorem step_inj {s f : Int} {n i j : Nat} (hs : s ∈ steps) (hn : n = 12 ∨ n = 26) (hi : i < 12) (hj : j < 12) (e : (f + s * i) % n = (f + s * j) % n) : i = j := by
  simp only [steps, List.mem_cons, List.not_mem_nil, or_false] at hs
  rcases hn with rfl | rfl <;> rcases hs with rfl | rfl | rfl | rfl <;> omega
def φ_calls : FSp := fun ds S Q E => match ds with
  | [.obj a, .int n] => PS a S ∧ ∃ m : Nat, n = m ∧ m ≤ 12 ∧ ∀ (ns : List (List Nat)) S', ns.length = m → (∀ s ∈ ns, NameOk s) → ns.Nodup → Kp a S S' → Q (.lst (ns.map .str)) S'
  | _ => False
theorem rng_items (m : Nat) : (List.range (m : Int).toNat).map (fun (k : Nat) => D.int (0 + k)) = (List.range m).map fun (k : Nat) => D.int (k : Nat) := by
  simp
theorem ok_calls (h0 : T.Fn f0 φ_pick) : Ok T n_calls (b_calls f0) φ_calls := by
  intro ds S Q E hφ
  match ds, hφ with
  | [.obj a, .int n], hh =>
    obtain ⟨hps, m, rfl, hm, q⟩ := hh
    simp_arith [b_calls, n_calls]
    refine ⟨by show 12 ≤ lim; decide, ?_⟩
    simp_arith [c_calls_5, x_call h0, φ_pick]
    refine ⟨hps, by decide, by decide, fun r S1 hr hK1 => ⟨by decide, hK1.1, by decide, by decide, fun r2 S2 hr2 hK2 => ?_⟩⟩
    obtain ⟨y, hy, e⟩ := atI_mem (l := [D.int 1, D.int 5, D.int 7, D.int 11]) (i := (r2 : Int)) (by omega) (by simpa using hr2)
    obtain ⟨st, hst, rfl⟩ : ∃ st ∈ steps, y = .int st := by
      simp only [List.mem_cons, List.not_mem_nil, or_false] at hy
      rcases hy with rfl | rfl | rfl | rfl <;> exact ⟨_, by simp [steps], rfl⟩
    have hs0 : 0 ≤ st ∧ st ≤ 11 := by
      simp only [steps, List.mem_cons, List.not_mem_nil, or_false] at hst
      omega
    refine ⟨_, _, rfl, e, by decide, _, rfl, rfl, ?_⟩
    simp_arith [c_calls_4, x_call h0, φ_pick]
    have hK12 := hK1.trans hK2
    refine ⟨hK2.1, by decide, by decide, fun r3 S3 hr3 hK3 => ?_⟩
    have hK3' := hK12.trans hK3
    cases hd : decide ((r3 : Int) = 1) with
    | true =>
      simp_arith [wFn]
      refine ⟨by constructor <;> omega, ?_⟩
      rw [rng_items]
      let f : Nat → List Nat := fun k => ownNames.getD ((r + st * k) % 12 : Int).toNat []
      have hidx : ∀ k : Nat, ((r + st * k) % 12 : Int).toNat < ownNames.length := fun k => by
        show _ < 12
        have h1 := Int.emod_nonneg (r + st * k : Int) (show (12 : Int) ≠ 0 by decide)
        have h2 := Int.emod_lt_of_pos (r + st * k : Int) (show (0 : Int) < 12 by decide)
        omega
      have hf : ∀ k : Nat, atI (ownNames.map D.str) ((r + st * k) % 12) = some (.str (f k)) := fun k => by
        have h1 := Int.emod_nonneg (r + st * k : Int) (show (12 : Int) ≠ 0 by decide)
        rw [atI_of h1 (by rw [List.length_map]; have := hidx k; omega), List.getElem_map]
        show some (D.str _) = some (D.str (ownNames.getD _ _))
        rw [List.getD_eq_getElem?_getD, List.getElem?_eq_getElem (hidx k)]
        rfl
      refine wLc_pure (fun d => match d with | .int k => .str (f k.toNat) | _ => .non) (fun _ => true) trivial (fun d hd k1 k0 hk1 hk0 => ?_) ?_ ?_
      · obtain ⟨k, hk, rfl⟩ := List.mem_map.mp hd
        rw [List.mem_range] at hk
        have e1 := hk1 rfl
        simp_arith [wFn]
        refine ⟨.inl (by omega), by decide, _, _, rfl, hf k, ?_⟩
        have e2 : k1 (.str (f ((k : Nat) : Int).toNat)) S3 := e1
        rw [Int.toNat_natCast] at e2
        exact e2
      · rw [List.length_map, List.length_range]; unfold lim; simp only [List.length_nil]; omega
      · rw [filter_all, List.nil_append, List.map_map]
        have e5 : (List.range m).map ((fun d => match d with | .int k => D.str (f k.toNat) | _ => D.non) ∘ fun (k : Nat) => D.int k) = ((List.range m).map f).map D.str := by
          rw [List.map_map]
          refine List.map_congr_left fun k _ => ?_
          show D.str (f ((k : Nat) : Int).toNat) = _
          rw [Int.toNat_natCast]; rfl
        rw [e5]
        refine ⟨_, Sub.refl _, q _ _ (by rw [List.length_map, List.length_range]) (fun s hs => ?_) ?_ hK3'⟩
        · obtain ⟨k, hk, rfl⟩ := List.mem_map.mp hs
          refine own_ok _ ?_
          show ownNames.getD _ _ ∈ _
          rw [List.getD_eq_getElem?_getD, List.getElem?_eq_getElem (hidx k)]
          exact List.getElem_mem _
        · refine nodup_range fun i j hi hj e => ?_
          have e' : ownNames.getD ((r + st * i) % 12 : Int).toNat [] = ownNames.getD ((r + st * j) % 12 : Int).toNat [] := e
          rw [List.getD_eq_getElem?_getD, List.getD_eq_getElem?_getD, List.getElem?_eq_getElem (hidx i), List.getElem?_eq_getElem (hidx j)] at e'
          have e6 := get_inj own_nd (hidx i) (hidx j) e'
          have h1 := Int.emod_nonneg (r + st * i : Int) (show (12 : Int) ≠ 0 by decide)
          have h2 := Int.emod_nonneg (r + st * j : Int) (show (12 : Int) ≠ 0 by decide)
          exact step_inj (n := 12) hst (.inl rfl) (by omega) (by omega) (by show (r + st * i : Int) % 12 = (r + st * j) % 12; omega)
    | false =>
      simp_arith [c_calls_3]
      simp_arith [c_calls_2, x_call h0, φ_pick]
      refine ⟨trivial, hK3.1, by decide, by decide, fun r4 S4 hr4 hK4 => ?_⟩
      have hK4' := hK3'.trans hK4
      refine ⟨by constructor <;> omega, ?_⟩
      have hlr : ((List.range (r4 : Int).toNat).map fun (k : Nat) => D.int (0 + k)).length = r4 := by simp
      refine wLc_draw (fun _ c => c ∈ abc) (fun c => .str [c]) hK4.1 (by rw [hlr]; unfold lim; omega) (fun j d S' hj hK => ⟨trivial, fun k1 k0 hk => ?_⟩) ?_
      · simp_arith [x_call h0, φ_pick]
        refine ⟨hK.1, by decide, by decide, fun r5 S5 hr5 hK5 => ?_⟩
        obtain ⟨y, hy, e⟩ := atI_mem (l := abc) (i := (r5 : Int)) (by omega) (by simpa [abc] using hr5)
        exact ⟨by decide, y, e, hk y S5 hy (hK.trans hK5)⟩
      intro stem S5 hl hP hK5
      rw [hlr] at hl
      refine ⟨trivial, join_signs (by rw [hl]; unfold lim; omega) ?_⟩
      have hstem : letters stem := fun c hc => by
        obtain ⟨i, hi, rfl⟩ := List.getElem_of_mem hc
        exact hP i _ (List.getElem?_eq_getElem hi)
      have hsl : stem.length ≤ lim := by rw [hl]; unfold lim; omega
      simp_arith [c_calls_1, x_call h0, φ_pick]
      refine ⟨hsl, hK5.1, by omega, by omega, fun cu S6 hcu hK6 => ⟨hK6.1, by decide, by decide, fun be S7 hbe hK7 => ⟨by decide, _, rfl, rfl, ?_⟩⟩⟩
      simp_arith [c_calls_0]
      refine ⟨by constructor <;> omega, ?_⟩
      rw [rng_items]
      let f : Nat → List Nat := fun k => stem.take cu ++ [abc.getD ((be + st * k) % 26 : Int).toNat 0] ++ stem.drop cu
      have hidx : ∀ k : Nat, ((be + st * k) % 26 : Int).toNat < abc.length := fun k => by
        show _ < 26
        have h1 := Int.emod_nonneg (be + st * k : Int) (show (26 : Int) ≠ 0 by decide)
        have h2 := Int.emod_lt_of_pos (be + st * k : Int) (show (0 : Int) < 26 by decide)
        omega
      have hf : ∀ k : Nat, atI abc ((be + st * k) % 26) = some (abc.getD ((be + st * k) % 26 : Int).toNat 0) := fun k => by
        have h1 := Int.emod_nonneg (be + st * k : Int) (show (26 : Int) ≠ 0 by decide)
        rw [atI_of h1 (by have := hidx k; omega), List.getD_eq_getElem?_getD, List.getElem?_eq_getElem (hidx k)]
        rfl
      have hln : ∀ k, (f k).length = stem.length + 1 := fun k => by
        show (stem.take cu ++ [_] ++ stem.drop cu).length = _
        rw [List.length_append, List.length_append, List.length_take, List.length_drop, List.length_singleton]
        omega
      refine wLc_pure (fun d => match d with | .int k => .str (f k.toNat) | _ => .non) (fun _ => true) trivial (fun d hd k1 k0 hk1 hk0 => ?_) ?_ ?_
      · obtain ⟨k, hk, rfl⟩ := List.mem_map.mp hd
        rw [List.mem_range] at hk
        have e1 := hk1 rfl
        simp_arith [cut_take, cut_drop]
        refine ⟨hsl, .inl (by omega), by decide, by decide, _, hf k, ?_, hsl, ?_, ?_⟩
        · rw [List.length_take]; unfold lim; omega
        · rw [List.length_append, List.length_take, List.length_drop]; unfold lim; simp only [List.length_cons, List.length_nil]; omega
        · have e2 : k1 (.str (f ((k : Nat) : Int).toNat)) S7 := e1
          rw [Int.toNat_natCast] at e2
          exact e2
      · rw [List.length_map, List.length_range]; unfold lim; simp only [List.length_nil]; omega
      · rw [filter_all, List.nil_append, List.map_map]
        have e5 : (List.range m).map ((fun d => match d with | .int k => D.str (f k.toNat) | _ => D.non) ∘ fun (k : Nat) => D.int k) = ((List.range m).map f).map D.str := by
          rw [List.map_map]
          refine List.map_congr_left fun k _ => ?_
          show D.str (f ((k : Nat) : Int).toNat) = _
          rw [Int.toNat_natCast]; rfl
        rw [e5]
        refine ⟨_, Sub.refl _, q _ _ (by rw [List.length_map, List.length_range]) (fun s hs => ?_) ?_ (((hK4'.trans hK5).trans hK6).trans hK7)⟩
        · obtain ⟨k, hk, rfl⟩ := List.mem_map.mp hs
          refine ⟨by rw [hln]; omega, by rw [hln]; omega, fun c hc => ?_⟩
          rcases List.mem_append.mp hc with hc | hc
          · rcases List.mem_append.mp hc with hc | hc
            · exact hstem c (List.mem_of_mem_take hc)
            · rw [List.mem_singleton.mp hc, List.getD_eq_getElem?_getD, List.getElem?_eq_getElem (hidx k)]
              exact List.getElem_mem _
          · exact hstem c (List.mem_of_mem_drop hc)
        · refine nodup_range fun i j hi hj e => ?_
          have e' : stem.take cu ++ [abc.getD ((be + st * i) % 26 : Int).toNat 0] ++ stem.drop cu = stem.take cu ++ [abc.getD ((be + st * j) % 26 : Int).toNat 0] ++ stem.drop cu := e
          rw [List.append_left_inj, List.append_right_inj, List.cons.injEq] at e'
          have e7 := e'.1
          rw [List.getD_eq_getElem?_getD, List.getD_eq_getElem?_getD, List.getElem?_eq_getElem (hidx i), List.getElem?_eq_getElem (hidx j)] at e7
          have e6 := get_inj abc_nd (hidx i) (hidx j) e7
          have h1 := Int.emod_nonneg (be + st * i : Int) (show (26 : Int) ≠ 0 by decide)
          have h2 := Int.emod_nonneg (be + st * j : Int) (show (26 : Int) ≠ 0 by decide)
          exact step_inj (n := 26) hst (.inr rfl) (by omega) (by omega) (by show (be + st * i : Int) % 26 = (be + st * j) % 26; omega)
end
end G
namespace G
open PySem L2
local macro_rules | `(tactic| simp_arith [$xs,*]) => `(tactic| simp only [wFn, wSs, wS, x_loc, x_const, x_glob, x_bin, x_neg, x_cmp, x_cmp2, x_bool, x_not, x_ite, x_bi, x_meth, x_attr, x_sub, x_sl, x_tup, x_lst, x_lc, x_sset, x_repl, x_dct, x_dc, x_rngT, x_rev, x_ssc, rv_tup, rv_lst, x_isiS, x_isiI, x_isiB, x_isiT, x_isiL, x_isiD, mkV, wB, wEs, wO, wTo, wI, wPs, wL, wLs, wG, wGs, lhsLen, esLen, pick, tgSlots, tgsSlots, wipeD, List.map_cons, List.map_nil, List.append_nil, List.nil_append, List.cons_append, List.length_cons, List.length_nil, Nat.reduceAdd, Nat.reduceSub, List.replicate, List.set_cons_zero, List.set_cons_succ, List.set_nil, List.getElem?_cons_zero, List.getElem?_cons_succ, Option.some.injEq, exists_eq_left', exists_eq_left, exists_eq_right, true_and, and_true, if_true, if_false, Bool.false_eq_true, reduceIte, List.getD_cons_zero, List.getD_cons_succ, tru_bl, tru_int, tru_non, D.bl.injEq, D.int.injEq, o_addI, o_subI, o_mulI, o_divI, o_modI, o_powI, o_addS, o_addL, o_addT, c_ltI, c_leI, c_gtI, c_geI, c_ltS, c_eqI, c_neI, c_eqS, c_neS, b_lenS, b_lenT, b_lenL, b_lenK, b_absI, b_maxI, b_minI, b_intI, b_intB, b_tupS, b_tupL, b_lstS, b_dvm, i_str, i_lst, i_tup, i_lsk, l_str, l_tup, l_lst, l_lsk, n_frz, n_obj, r_one, r_two, ak_non, ak_bl, ak_int, ak_str, ak_tup, ak_lst, ak_dct, kS_non, kS_bl, kS_int, kS_str, kS_tup, kS_lst, kS_dct, kS_ins, kS_obj, kI_non, kI_bl, kI_int, kI_str, kI_tup, kI_lst, kI_dct, kI_ins, kI_obj, kB_non, kB_bl, kB_int, kB_str, kB_tup, kB_lst, kB_dct, kB_ins, kB_obj, kT_non, kT_bl, kT_int, kT_str, kT_tup, kT_lst, kT_dct, kT_ins, kT_obj, kL_non, kD_non, kL_bl, kD_bl, kL_int, kD_int, kL_str, kD_str, kL_tup, kD_tup, kL_lst, kD_lst, kL_dct, kD_dct, kL_ins, kD_ins, c_inS, c_niS, c_inT, c_niT, c_inL, c_niL, c_is, c_isn, c_isB, i_dct, nn_non, nn_int, nn_str, nn_tup, nn_lst, b_tupT, b_rpr, decide_true, decide_false, Bool.not_true, Bool.not_false, Bool.and_true, Bool.true_and, Bool.and_false, Bool.false_and, $xs,*])
/-! H3: cells, pots, bands, histories that are drawn. -/
section
variable {T : Tab} {f0 f1 f2 f3 : Str}
def CsOk (n : Nat) (cs : List Nat) : Prop := cs ≠ [] ∧ (∀ c ∈ cs, c < n) ∧ cs.Pairwise (· < ·)
def φ_area : FSp := fun ds S Q E => match ds with
  | [.obj a, .int t, .int b] => PS a S ∧ ∃ h w : Nat, t = h ∧ b = w ∧ 1 ≤ h ∧ h ≤ 6 ∧ 1 ≤ w ∧ w ≤ 6 ∧ ∀ cs S', CsOk (h * w) cs → Kp a S S' → Q (.tup (cellsD cs)) S'
  | _ => False
theorem rgC_small : ∀ w : Fin 7, ∀ h : Fin 7, ∀ p : Fin 7, 1 ≤ w.val → 1 ≤ h.val → p.val < w.val → Builtin.Range.small p.val ((h.val : Int) * w.val) w.val = true ∧ Builtin.Range.rangeSize p.val ((h.val : Int) * w.val) w.val = h.val := by decide
theorem rgC_of {h w p : Nat} (h1 : 1 ≤ h) (h6 : h ≤ 6) (w1 : 1 ≤ w) (w6 : w ≤ 6) (hp : p < w) : RgC p ((h : Int) * w) w h := by
  obtain ⟨a, b⟩ := rgC_small ⟨w, by omega⟩ ⟨h, by omega⟩ ⟨p, by omega⟩ w1 h1 hp
  exact ⟨by omega, by omega, a, b⟩
theorem range_up (n : Nat) : (List.range n).Pairwise (· < ·) := List.pairwise_lt_range
theorem cellsD_range (n : Nat) : (List.range n).map (fun (k : Nat) => D.int (k : Nat)) = cellsD (List.range n) := rfl
theorem cs_filter {n : Nat} {p : Nat → Bool} {c : Nat} (hc : c < n) (hp : p c = true) : CsOk n ((List.range n).filter p) := by
  refine ⟨fun e => ?_, fun c hc => List.mem_range.mp (List.mem_filter.mp hc).1, (range_up n).filter p⟩
  have : c ∈ (List.range n).filter p := List.mem_filter.mpr ⟨List.mem_range.mpr hc, hp⟩
  rw [e] at this
  cases this
theorem plain_cells (cs : List Nat) : plains (cellsD cs) = true ∧ depths (cellsD cs) = 0 := by
  unfold cellsD
  induction cs with
  | nil => exact ⟨rfl, rfl⟩
  | cons c r ih =>
    rw [List.map_cons]
    unfold plains depths
    rw [ih.1, ih.2]
    exact ⟨rfl, rfl⟩
theorem ok_area (h0 : T.Fn f0 φ_pick) : Ok T n_area (b_area f0) φ_area := by
  intro ds S Q E hφ
  match ds, hφ with
  | [.obj a, .int t, .int b], hh =>
    obtain ⟨hps, h, w, rfl, rfl, h1, h6, w1, w6, q⟩ := hh
    have hn : h * w ≤ 36 := Nat.mul_le_mul h6 w6
    have hn1 : 1 ≤ h * w := Nat.mul_le_mul h1 w1
    have ehw : (h : Int) * (w : Int) = ((h * w : Nat) : Int) := by simp
    simp_arith [b_area, n_area, x_call h0, φ_pick]
    refine ⟨hps, by decide, by decide, fun r S1 hr hK1 => ⟨.inl (by omega), ?_⟩⟩
    simp_arith [c_area_7]
    cases d0 : decide ((r : Int) = 0) with
    | true =>
      simp_arith [x_call h0, φ_pick]
      refine ⟨hK1.1, by omega, by omega, fun p S2 hp hK2 => ⟨.inl (by omega), ?_⟩⟩
      have hpw : p * w + w ≤ h * w := by
        have : (p + 1) * w ≤ h * w := Nat.mul_le_mul_right w (by omega)
        rw [Nat.add_mul, Nat.one_mul] at this
        exact this
      have e1 : (p : Int) * (w : Int) = ((p * w : Nat) : Int) := by simp
      simp_arith [c_area_0, e1]
      refine ⟨by omega, ?_⟩
      have e2 : (List.range (((p * w : Nat) : Int) + w - ((p * w : Nat) : Int)).toNat).map (fun (k : Nat) => D.int (((p * w : Nat) : Int) + k)) = cellsD ((List.range w).map fun k => p * w + k) := by
        have : (((p * w : Nat) : Int) + w - ((p * w : Nat) : Int)).toNat = w := by omega
        rw [this]
        unfold cellsD
        rw [List.map_map]
        refine List.map_congr_left fun k _ => ?_
        simp
      rw [e2]
      refine ⟨by unfold cellsD; rw [List.length_map, List.length_map, List.length_range]; unfold lim; omega, _, Sub.refl _, q _ _ ⟨?_, ?_, ?_⟩ (hK1.trans hK2)⟩
      · intro e
        have := congrArg List.length e
        simp at this
        omega
      · intro c hc
        obtain ⟨k, hk, rfl⟩ := List.mem_map.mp hc
        rw [List.mem_range] at hk
        omega
      · rw [List.pairwise_map]
        exact (range_up w).imp fun h => by omega
    | false =>
      simp_arith [c_area_6]
      cases d1 : decide ((r : Int) = 1) with
      | true =>
        simp_arith [x_call h0, φ_pick]
        refine ⟨hK1.1, by omega, by omega, fun p S2 hp hK2 => ?_⟩
        refine ⟨h, rgC_of h1 h6 w1 w6 (by omega), ?_⟩
        have e2 : (List.range h).map (fun (k : Nat) => D.int ((p : Int) + k * w)) = cellsD ((List.range h).map fun k => p + k * w) := by
          unfold cellsD
          rw [List.map_map]
          refine List.map_congr_left fun k _ => ?_
          simp
        rw [e2]
        refine ⟨by unfold cellsD; rw [List.length_map, List.length_map, List.length_range]; unfold lim; omega, _, Sub.refl _, q _ _ ⟨?_, ?_, ?_⟩ (hK1.trans hK2)⟩
        · intro e
          have := congrArg List.length e
          simp at this
          omega
        · intro c hc
          obtain ⟨k, hk, rfl⟩ := List.mem_map.mp hc
          rw [List.mem_range] at hk
          have : (k + 1) * w ≤ h * w := Nat.mul_le_mul_right w hk
          rw [Nat.add_mul, Nat.one_mul] at this
          omega
        · rw [List.pairwise_map]
          refine (range_up h).imp fun {x y} hxy => ?_
          have : (x + 1) * w ≤ y * w := Nat.mul_le_mul_right w hxy
          rw [Nat.add_mul, Nat.one_mul] at this
          omega
      | false =>
        simp_arith [c_area_5]
        cases d2 : decide ((r : Int) = 2) with
        | true =>
          simp_arith [x_call h0, φ_pick]
          refine ⟨hK1.1, by omega, by omega, fun tp S2 htp hK2 => ⟨hK2.1, by omega, by omega, fun lf S3 hlf hK3 => ⟨by decide, _, rfl, rfl, ?_⟩⟩⟩
          simp_arith [c_area_2, x_call h0, φ_pick]
          refine ⟨hK3.1, by omega, by omega, fun u S4 hu hK4 => ⟨hK4.1, by omega, by omega, fun v S5 hv hK5 => ⟨by decide, _, rfl, rfl, ?_⟩⟩⟩
          simp_arith [c_area_1, ehw]
          refine ⟨by constructor <;> omega, ?_⟩
          rw [rng_items]
          let kp : Nat → Bool := fun c => decide (tp ≤ c / w ∧ c / w ≤ tp + u) && decide (lf ≤ c % w ∧ c % w ≤ lf + v)
          refine wLc_pure (fun d => d) (fun d => match d with | .int i => kp i.toNat | _ => false) trivial (fun d hd k1 k0 hk1 hk0 => ?_) (by rw [List.length_map, List.length_range]; unfold lim; simp only [List.length_nil]; omega) ?_
          · obtain ⟨c, hc, rfl⟩ := List.mem_map.mp hd
            have f1 : kp c = true → k1 (.int (c : Nat)) S5 := fun z => hk1 (by show kp ((c : Nat) : Int).toNat = true; rw [Int.toNat_natCast]; exact z)
            have f2 : kp c = false → k0 S5 := fun z => hk0 (by show kp ((c : Nat) : Int).toNat = false; rw [Int.toNat_natCast]; exact z)
            have ediv : (c : Int) / (w : Int) = ((c / w : Nat) : Int) := by simp
            have emod : (c : Int) % (w : Int) = ((c % w : Nat) : Int) := by simp
            simp_arith [ediv, emod]
            refine ⟨by omega, by omega, ?_⟩
            by_cases c1 : tp ≤ c / w
            · rw [decide_eq_true (show (tp : Int) ≤ ((c / w : Nat) : Int) by omega)]
              simp_arith [wFn]
              by_cases c2 : c / w ≤ tp + u
              · rw [decide_eq_true (show ((c / w : Nat) : Int) ≤ (tp : Int) + u by omega)]
                simp_arith [wFn]
                refine ⟨by omega, ?_⟩
                by_cases c3 : lf ≤ c % w
                · rw [decide_eq_true (show (lf : Int) ≤ ((c % w : Nat) : Int) by omega)]
                  simp_arith [wFn]
                  by_cases c4 : c % w ≤ lf + v
                  · rw [decide_eq_true (show ((c % w : Nat) : Int) ≤ (lf : Int) + v by omega)]
                    simp_arith [wFn]
                    exact f1 (by simp [kp, c1, c2, c3, c4])
                  · rw [decide_eq_false (show ¬ ((c % w : Nat) : Int) ≤ (lf : Int) + v by omega)]
                    simp_arith [wFn]
                    exact f2 (by simp [kp, c4])
                · rw [decide_eq_false (show ¬ (lf : Int) ≤ ((c % w : Nat) : Int) by omega)]
                  simp_arith [wFn]
                  exact f2 (by simp [kp, c3])
              · rw [decide_eq_false (show ¬ ((c / w : Nat) : Int) ≤ (tp : Int) + u by omega)]
                simp_arith [wFn]
                exact f2 (by simp [kp, c2])
            · rw [decide_eq_false (show ¬ (tp : Int) ≤ ((c / w : Nat) : Int) by omega)]
              simp_arith [wFn]
              exact f2 (by simp [kp, c1])
          rw [List.nil_append, List.map_id']
          have e3 : ((List.range (h * w)).map fun (k : Nat) => D.int (k : Nat)).filter (fun d => match d with | .int i => kp i.toNat | _ => false) = cellsD ((List.range (h * w)).filter kp) := by
            rw [List.filter_map]
            rfl
          rw [e3]
          refine ⟨_, Sub.refl _, q _ _ (cs_filter (c := tp * w + lf) ?_ ?_) ((((hK1.trans hK2).trans hK3).trans hK4).trans hK5)⟩
          · have : (tp + 1) * w ≤ h * w := Nat.mul_le_mul_right w (by omega)
            rw [Nat.add_mul, Nat.one_mul] at this
            omega
          · have g1 : (tp * w + lf) / w = tp := by
              rw [Nat.mul_comm, Nat.mul_add_div (by omega), Nat.div_eq_of_lt (by omega), Nat.add_zero]
            have g2 : (tp * w + lf) % w = lf := by
              rw [Nat.mul_comm, Nat.mul_add_mod, Nat.mod_eq_of_lt (by omega)]
            simp [kp, g1, g2]
        | false =>
          simp_arith [c_area_4, ehw]
          refine ⟨by constructor <;> omega, ?_⟩
          rw [rng_items]
          refine wLc_inv (fun i acc S' => ∃ cs : List Nat, acc = cellsD cs ∧ (∀ c ∈ cs, c < i) ∧ cs.Pairwise (· < ·) ∧ cs.length ≤ i ∧ Kp a S S') 0 ⟨[], rfl, (fun c hc => by cases hc), .nil, Nat.le_refl _, hK1⟩ ?_ ?_ ?_
          · rintro j d acc S' hj ⟨cs, rfl, hc, hp, hl, hK⟩
            rw [List.getElem?_map] at hj
            cases hj' : (List.range (h * w))[j]? with
            | none => rw [hj'] at hj; cases hj
            | some j' =>
              rw [hj'] at hj
              cases hj
              have ejj : j' = j := by
                have := (List.getElem?_eq_some_iff.mp hj').2
                rw [List.getElem_range] at this
                exact this.symm
              subst ejj
              refine ⟨trivial, fun k1 k0 hk1 hk0 => ?_⟩
              simp_arith [x_call h0, φ_pick]
              refine ⟨hK.1, by decide, by decide, fun z S2 hz hK2 => ?_⟩
              cases decide ((z : Int) = 0) with
              | true =>
                simp_arith [wFn]
                refine hk1 _ _ ⟨cs ++ [j'], by unfold cellsD; rw [List.map_append]; rfl, fun c hc' => ?_, ?_, by rw [List.length_append, List.length_singleton]; omega, hK.trans hK2⟩
                · rcases List.mem_append.mp hc' with hc' | hc'
                  · have := hc c hc'; omega
                  · rw [List.mem_singleton.mp hc']; omega
                · rw [List.pairwise_append]
                  refine ⟨hp, List.pairwise_singleton _ _, fun x hx y hy => ?_⟩
                  rw [List.mem_singleton.mp hy]
                  have := hc x hx
                  omega
              | false =>
                simp_arith [wFn]
                exact hk0 _ ⟨cs, rfl, fun c hc' => by have := hc c hc'; omega, hp, by omega, hK.trans hK2⟩
          · rintro j acc S' hj ⟨cs, rfl, hc, hp, hl, hK⟩
            rw [List.length_map, List.length_range] at hj
            unfold cellsD
            rw [List.length_map]
            unfold lim
            omega
          · rintro acc S' ⟨cs, rfl, hc, hp, hl, hK⟩
            rw [List.length_map, List.length_range, Nat.zero_add] at hc
            refine ⟨trivial, ?_⟩
            simp_arith [c_area_3, c_ne, plain, depth, plain_cells]
            refine ⟨by decide, ⟨rfl, by decide⟩, ?_⟩
            cases cs with
            | cons c cs =>
              refine ⟨_, Sub.refl _, q _ _ ⟨by simp, hc, hp⟩ hK⟩
            | nil =>
              have e0 : beq (.lst (cellsD [])) (.lst []) = true := rfl
              rw [e0]
              simp_arith [x_call h0, φ_pick]
              refine ⟨hK.1, by omega, by omega, fun z S2 hz hK2 => ⟨by decide, _, Sub.refl _, ?_⟩⟩
              refine q [z] S2 ⟨by simp, fun c hc => ?_, List.pairwise_singleton _ _⟩ (hK.trans hK2)
              rw [List.mem_singleton.mp hc]
              omega
end
end G
namespace G
open PySem L2
local macro_rules | `(tactic| simp_arith [$xs,*]) => `(tactic| simp only [wFn, wSs, wS, x_loc, x_const, x_glob, x_bin, x_neg, x_cmp, x_cmp2, x_bool, x_not, x_ite, x_bi, x_meth, x_attr, x_sub, x_sl, x_tup, x_lst, x_lc, x_sset, x_repl, x_dct, x_dc, x_rngT, x_rev, x_ssc, rv_tup, rv_lst, x_isiS, x_isiI, x_isiB, x_isiT, x_isiL, x_isiD, mkV, wB, wEs, wO, wTo, wI, wPs, wL, wLs, wG, wGs, lhsLen, esLen, pick, tgSlots, tgsSlots, wipeD, List.map_cons, List.map_nil, List.append_nil, List.nil_append, List.cons_append, List.length_cons, List.length_nil, Nat.reduceAdd, Nat.reduceSub, List.replicate, List.set_cons_zero, List.set_cons_succ, List.set_nil, List.getElem?_cons_zero, List.getElem?_cons_succ, Option.some.injEq, exists_eq_left', exists_eq_left, exists_eq_right, true_and, and_true, if_true, if_false, Bool.false_eq_true, reduceIte, List.getD_cons_zero, List.getD_cons_succ, tru_bl, tru_int, tru_non, D.bl.injEq, D.int.injEq, o_addI, o_subI, o_mulI, o_divI, o_modI, o_powI, o_addS, o_addL, o_addT, c_ltI, c_leI, c_gtI, c_geI, c_ltS, c_eqI, c_neI, c_eqS, c_neS, b_lenS, b_lenT, b_lenL, b_lenK, b_absI, b_maxI, b_minI, b_intI, b_intB, b_tupS, b_tupL, b_lstS, b_dvm, i_str, i_lst, i_tup, i_lsk, l_str, l_tup, l_lst, l_lsk, n_frz, n_obj, r_one, r_two, ak_non, ak_bl, ak_int, ak_str, ak_tup, ak_lst, ak_dct, kS_non, kS_bl, kS_int, kS_str, kS_tup, kS_lst, kS_dct, kS_ins, kS_obj, kI_non, kI_bl, kI_int, kI_str, kI_tup, kI_lst, kI_dct, kI_ins, kI_obj, kB_non, kB_bl, kB_int, kB_str, kB_tup, kB_lst, kB_dct, kB_ins, kB_obj, kT_non, kT_bl, kT_int, kT_str, kT_tup, kT_lst, kT_dct, kT_ins, kT_obj, kL_non, kD_non, kL_bl, kD_bl, kL_int, kD_int, kL_str, kD_str, kL_tup, kD_tup, kL_lst, kD_lst, kL_dct, kD_dct, kL_ins, kD_ins, c_inS, c_niS, c_inT, c_niT, c_inL, c_niL, c_is, c_isn, c_isB, i_dct, nn_non, nn_int, nn_str, nn_tup, nn_lst, b_tupT, b_rpr, decide_true, decide_false, Bool.not_true, Bool.not_false, Bool.and_true, Bool.true_and, Bool.and_false, Bool.false_and, $xs,*])
/-! H4: pots, bands, histories that are drawn; a picture painted stroke by stroke. -/
section
variable {T : Tab} {f0 f1 f2 f3 : Str}
theorem insU_len (x : List Nat) : ∀ l : List (List Nat), (insU x l).length ≤ l.length + 1
  | [] => by simp [insU]
  | y :: r => by
    unfold insU
    split
    · simp
    · split
      · have := insU_len x r
        simp only [List.length_cons]; omega
      · simp
theorem sortU_len : ∀ l : List (List Nat), (sortU l).length ≤ l.length
  | [] => by simp [sortU]
  | y :: r => by
    have h1 := sortU_len r
    have h2 := insU_len y (sortU r)
    show (insU y (sortU r)).length ≤ _
    simp only [List.length_cons]; omega
theorem one_lt' {a b : Nat} : [a] < [b] ↔ a < b := by
  have := one_lt (a := a) (b := b)
  rw [decide_eq_decide] at this
  exact this
theorem ones_of : ∀ (l : List (List Nat)), (∀ x ∈ l, ∃ c, x = [c]) → ∃ cs : List Nat, l = cs.map fun c => [c]
  | [], _ => ⟨[], rfl⟩
  | x :: r, h => by
    obtain ⟨c, rfl⟩ := h x (by simp)
    obtain ⟨cs, rfl⟩ := ones_of r fun y hy => h y (by simp [hy])
    exact ⟨c :: cs, rfl⟩
/-- signs put in order, each once -/
theorem sort_signs (ts : List Nat) : ∃ cs : List Nat, sortU (ts.map fun c => [c]) = (cs.map fun c => [c]) ∧ cs.Pairwise (· < ·) ∧ (∀ c, c ∈ cs ↔ c ∈ ts) ∧ cs.length ≤ ts.length := by
  obtain ⟨cs, e⟩ := ones_of (sortU (ts.map fun c => [c])) fun x hx => by
    obtain ⟨c, _, rfl⟩ := List.mem_map.mp (mem_sortU.mp hx)
    exact ⟨c, rfl⟩
  refine ⟨cs, e, ?_, fun c => ?_, ?_⟩
  · have := sortU_up (ts.map fun c => [c])
    rw [e, List.pairwise_map] at this
    exact this.imp fun h => one_lt'.mp h
  · have h1 : [c] ∈ sortU (ts.map fun c => [c]) ↔ [c] ∈ ts.map fun c => [c] := mem_sortU
    rw [e] at h1
    simpa using h1
  · have := sortU_len (ts.map fun c => [c])
    rw [e, List.length_map, List.length_map] at this
    exact this
def PotsOk (s : List Nat) : Prop := 1 ≤ s.length ∧ s.length ≤ 6 ∧ letters s ∧ s.Pairwise (· < ·)
def φ_dpots : FSp := fun ds S Q E => match ds with
  | [.obj a, .int u] => PS a S ∧ ∃ m : Nat, u = m ∧ 1 ≤ m ∧ m ≤ 3 ∧ ∀ ps S', PotsOk ps → Kp a S S' → Q (.str ps) S'
  | _ => False
theorem rst_ok : ∀ n : Fin 4, ∀ f : Fin 6, 1 ≤ n.val → f.val < 6 - n.val → 1 ≤ (([114, 115, 116, 117, 118, 119].drop f.val).take n.val).length ∧ (([114, 115, 116, 117, 118, 119].drop f.val).take n.val).length ≤ 6 ∧ (∀ c ∈ ([114, 115, 116, 117, 118, 119].drop f.val).take n.val, c ∈ abc) ∧ (([114, 115, 116, 117, 118, 119].drop f.val).take n.val).Pairwise (· < ·) := by decide
theorem ok_dpots (h0 : T.Fn f0 φ_pick) : Ok T n_dpots (b_dpots f0) φ_dpots := by
  intro ds S Q E hφ
  match ds, hφ with
  | [.obj a, .int u], hh =>
    obtain ⟨hps, m, rfl, m1, m3, q⟩ := hh
    simp_arith [b_dpots, n_dpots]
    simp_arith [c_dpots_3, x_call h0, φ_pick]
    refine ⟨hps, by decide, by decide, fun r S1 hr hK1 => ?_⟩
    cases decide ((r : Int) = 5) with
    | true =>
      simp_arith [x_call h0, φ_pick]
      refine ⟨trivial, hK1.1, by decide, by decide, fun r2 S2 hr2 hK2 => ⟨by constructor <;> omega, ?_⟩⟩
      have hlr : ((List.range (1 + (r2 : Int)).toNat).map fun (k : Nat) => D.int (0 + k)).length = 1 + r2 := by simp; omega
      refine wLc_draw (fun _ c => c ∈ abc) (fun c => .str [c]) hK2.1 (by rw [hlr]; unfold lim; omega) (fun j d S' hj hK => ⟨trivial, fun k1 k0 hk => ?_⟩) ?_
      · simp_arith [x_call h0, φ_pick]
        refine ⟨hK.1, by decide, by decide, fun r5 S5 hr5 hK5 => ?_⟩
        obtain ⟨y, hy, e⟩ := atI_mem (l := abc) (i := (r5 : Int)) (by omega) (by simpa [abc] using hr5)
        exact ⟨by decide, y, e, hk y S5 hy (hK.trans hK5)⟩
      intro ts S3 hl hP hK3
      rw [hlr] at hl
      obtain ⟨cs, e, hp, hm, hc⟩ := sort_signs ts
      refine ⟨trivial, .inl ⟨ts.map fun c => [c], by rw [List.map_map]; rfl, by rw [List.length_map]; omega, ?_⟩⟩
      simp_arith [wFn]
      rw [e, List.map_map]
      refine join_signs (by unfold lim; omega) ⟨_, Sub.refl _, q cs S3 ⟨?_, by omega, fun c hc' => ?_, hp⟩ ((hK1.trans hK2).trans hK3)⟩
      · cases ts with
        | nil => simp at hl; omega
        | cons t r =>
          have : t ∈ cs := (hm t).mpr (by simp)
          cases cs with
          | nil => cases this
          | cons _ _ => simp
      · obtain ⟨i, hi, rfl⟩ := List.getElem_of_mem ((hm c).mp hc')
        exact hP i _ (List.getElem?_eq_getElem hi)
    | false =>
      simp_arith [c_dpots_2, x_call h0, φ_pick]
      refine ⟨hK1.1, by omega, by omega, fun r2 S2 hr2 hK2 => ?_⟩
      simp_arith [c_dpots_1, x_call h0, φ_pick]
      refine ⟨hK2.1, by omega, by omega, fun r3 S3 hr3 hK3 => ?_⟩
      have e1 : (r3 : Int) + (1 + (r2 : Int)) = ((r3 + (1 + r2) : Nat) : Int) := by simp
      simp_arith [c_dpots_0, e1, cut_mid]
      have e2 : r3 + (1 + r2) - r3 = 1 + r2 := by omega
      rw [e2]
      refine ⟨by decide, _, Sub.refl _, q _ S3 (rst_ok ⟨1 + r2, by omega⟩ ⟨r3, by omega⟩ (by show 1 ≤ 1 + r2; omega) (by show r3 < 6 - (1 + r2); omega)) ((hK1.trans hK2).trans hK3)⟩
/-! ### bands -/
def φ_belts : FSp := fun ds S Q E => match ds with
  | [.obj a, .int t, .int b, .int n] => PS a S ∧ ∃ h w m : Nat, t = h ∧ b = w ∧ n = m ∧ 1 ≤ h ∧ h ≤ 6 ∧ 1 ≤ w ∧ w ≤ 6 ∧ m ≤ 12 ∧ ∀ (bs : List Band) S', bs.length = m → (∀ b ∈ bs, b.Ok (h * w)) → (bs.map (·.name)).Nodup → Kp a S S' → Q (.tup (bs.map Band.d)) S'
  | _ => False
theorem Kp.at {a p : Addr} {S S' : Sto} {o : O} (k : Kp a S S') (ne : p ≠ a) (e : S p = some o) : S' p = some o := k.2 p o ne e
theorem Kp.set {a p : Addr} {S S' : Sto} {o : O} (k : Kp a S S') (ne : p ≠ a) (h : ∀ o, S p ≠ some o) : Kp a S (S'.set p o) := by
  obtain ⟨⟨s, d, c, e⟩, k2⟩ := k
  refine ⟨⟨s, d, c, by rw [Sto.set_ne (Ne.symm ne)]; exact e⟩, fun b u nb e' => ?_⟩
  have : b ≠ p := fun z => h u (z ▸ e')
  rw [Sto.set_ne this]
  exact k2 b u nb e'
theorem app_obj {p : Addr} {S : Sto} {xs : List D} (h : S p = some (.lst xs)) : meT .append (.obj p) S := ⟨xs, h⟩
theorem ok_belts (h0 : T.Fn f0 φ_calls) (h1 : T.Fn f1 φ_area) (h2 : T.Fn f2 φ_dpots) (h3 : T.Fn f3 φ_pick) : Ok T n_belts (b_belts f0 f1 f2 f3) φ_belts := by
  intro ds S Q E hφ
  match ds, hφ with
  | [.obj a, .int t, .int b, .int n], hh =>
    obtain ⟨hps, h, w, m, rfl, rfl, rfl, h1', h6, w1, w6, hm, q⟩ := hh
    simp_arith [b_belts, n_belts]
    refine ⟨by decide, fun p hp => ?_⟩
    have hpa : p ≠ a := hps.ne hp
    have hno : ∀ o, S p ≠ some o := fun o e => by rw [hp] at e; cases e
    simp_arith [c_belts_2, x_call h0, φ_calls]
    have hK0 : Kp a S (S.set p (.lst [])) := (Kp.refl hps).set hpa hno
    refine ⟨hK0.1, m, rfl, hm, fun ns S1 hl hok hnd hK1 => ⟨_, rfl, ?_⟩⟩
    refine wFor_inv (fun i ρ S' => ∃ (bs : List Band) (x5 x6 x7 : Option D), ρ = [some (.obj a), some (.int h), some (.int w), some (.int m), some (.obj p), x5, x6, x7] ∧ bs.map (·.name) = ns.take i ∧ (∀ b ∈ bs, b.Ok (h * w)) ∧ S' p = some (.lst (bs.map Band.d)) ∧ Kp a S S') 0
      ⟨[], _, _, _, rfl, rfl, (fun b hb => by cases hb), hK1.at hpa Sto.set_same, hK0.trans hK1⟩ ?_ ?_
    · rintro j d ρ S' hj ⟨bs, x5, x6, x7, rfl, hn, hb, hS, hK⟩
      rw [List.getElem?_map] at hj
      cases hj' : ns[j]? with
      | none => rw [hj'] at hj; cases hj
      | some nm =>
        rw [hj'] at hj
        cases hj
        have hnm := hok nm (List.mem_of_getElem? hj')
        refine ⟨trivial, fun nx hnx => ?_⟩
        simp_arith [x_call h1, φ_area]
        refine ⟨hK.1, h, w, rfl, rfl, h1', h6, w1, w6, fun cs S2 hcs hK2 => ?_⟩
        simp_arith [x_call h2, x_call h3, φ_dpots, φ_pick]
        refine ⟨by decide, hK2.1, by decide, by decide, fun r S3 hr hK3 => ?_⟩
        obtain ⟨y, hy, e⟩ := atI_mem (l := [D.int 1, D.int 2, D.int 3]) (i := (r : Int)) (by omega) (by simpa using hr)
        obtain ⟨k, rfl, k1, k3⟩ : ∃ k : Nat, y = .int k ∧ 1 ≤ k ∧ k ≤ 3 := by
          simp only [List.mem_cons, List.not_mem_nil, or_false] at hy
          rcases hy with rfl | rfl | rfl
          · exact ⟨1, rfl, by decide, by decide⟩
          · exact ⟨2, rfl, by decide, by decide⟩
          · exact ⟨3, rfl, by decide, by decide⟩
        refine ⟨_, _, rfl, e, hK3.1, k, rfl, k1, k3, fun ps S4 hps4 hK4 => ?_⟩
        have hK24 := (hK2.trans hK3).trans hK4
        have hS4 := hK24.at hpa hS
        simp_arith [c_belts_0, x_call h3, φ_pick]
        refine ⟨app_obj hS4, by decide, hK4.1, by decide, by decide, fun r2 S5 hr2 hK5 => ?_⟩
        obtain ⟨y2, hy2, e2⟩ := atI_mem (l := [D.int 1, D.int 3, D.int 9]) (i := (r2 : Int)) (by omega) (by simpa using hr2)
        obtain ⟨k', rfl, k1', k9'⟩ : ∃ k : Nat, y2 = .int k ∧ 1 ≤ k ∧ k ≤ 9 := by
          simp only [List.mem_cons, List.not_mem_nil, or_false] at hy2
          rcases hy2 with rfl | rfl | rfl
          · exact ⟨1, rfl, by decide, by decide⟩
          · exact ⟨3, rfl, by decide, by decide⟩
          · exact ⟨9, rfl, by decide, by decide⟩
        refine ⟨_, _, rfl, e2, hK5.1, by omega, by omega, fun r3 S6 hr3 hK6 => ⟨by decide, ?_⟩⟩
        have hS6 := hK6.at hpa (hK5.at hpa hS4)
        have hlen : bs.length ≤ 12 := by
          have := congrArg List.length hn
          rw [List.length_map, List.length_take] at this
          omega
        refine ⟨bs.map Band.d, hS6, by rw [List.length_map]; unfold lim; omega, ?_⟩
        have ec : (1 : Int) + (r3 : Int) = ((1 + r3 : Nat) : Int) := by simp
        refine hnx _ _ ⟨bs ++ [⟨nm, cs, ps, 1 + r3⟩], _, _, _, rfl, ?_, fun b' hb' => ?_, ?_, (((hK.trans hK24).trans hK5).trans hK6).set hpa hno⟩
        · rw [List.map_append, hn, Nat.zero_add, List.take_add_one, hj']
          rfl
        · rcases List.mem_append.mp hb' with hb' | hb'
          · exact hb b' hb'
          · rw [List.mem_singleton.mp hb']
            exact ⟨hnm.1, hnm.2.1, hnm.2.2, hcs.1, hcs.2.1, hcs.2.2, hps4.1, hps4.2.1, hps4.2.2.1, hps4.2.2.2, by show 1 ≤ 1 + r3; omega, by show 1 + r3 ≤ 9; omega⟩
        · rw [Sto.set_same, List.map_append, ec]
          rfl
    · rintro ρ S' ⟨bs, x5, x6, x7, rfl, hn, hb, hS, hK⟩
      rw [List.length_map, Nat.zero_add, List.take_length] at hn
      refine ⟨trivial, ?_⟩
      simp_arith [c_belts_1]
      refine ⟨_, seq_obj hS, _, Sub.refl _, q bs S' ?_ hb (by rw [hn]; exact hnd) hK⟩
      have := congrArg List.length hn
      rw [List.length_map] at this
      omega
/-! ### histories -/
theorem plain_bands (bs : List Band) : plains (bs.map Band.d) = true ∧ depths (bs.map Band.d) ≤ 2 := by
  induction bs with
  | nil => exact ⟨rfl, Nat.zero_le _⟩
  | cons b r ih =>
    have hc := plain_cells b.cells
    have e1 : plain b.d = true := by
      show plain (.tup [.str b.name, .tup (cellsD b.cells), .str b.pots, .int b.cost]) = true
      simp only [plain, plains, hc.1, Bool.and_self]
    have e2 : depth b.d = 2 := by
      show depth (.tup [.str b.name, .tup (cellsD b.cells), .str b.pots, .int b.cost]) = 2
      simp only [depth, depths, hc.2]
      rfl
    rw [List.map_cons]
    unfold plains depths
    rw [e1, e2, ih.1]
    exact ⟨rfl, by have := ih.2; omega⟩
def φ_story : FSp := fun ds S Q E => match ds with
  | [.obj a, x, .int u] => PS a S ∧ ∃ (bs : List Band) (n m : Nat), x = .tup (bs.map Band.d) ∧ bs.length ≤ 12 ∧ (∀ b ∈ bs, b.Ok n) ∧ u = m ∧ m ≤ 60 ∧ ∀ (hs : List Stroke) S', hs.length ≤ m → (∀ p ∈ hs, StOk bs p) → Kp a S S' → Q (histD hs) S'
  | _ => False
theorem ok_story (h0 : T.Fn f0 φ_pick) : Ok T n_story (b_story f0) φ_story := by
  intro ds S Q E hφ
  match ds, hφ with
  | [.obj a, x, .int u], hh =>
    obtain ⟨hps, bs, n, m, rfl, hbl, hbo, rfl, hm, q⟩ := hh
    simp_arith [b_story, n_story]
    refine ⟨by decide, fun p hp => ?_⟩
    have hpa : p ≠ a := hps.ne hp
    have hno : ∀ o, S p ≠ some o := fun o e => by rw [hp] at e; cases e
    have hK0 : Kp a S (S.set p (.lst [])) := (Kp.refl hps).set hpa hno
    simp_arith [c_story_2, x_call h0, φ_pick, c_ne, plain, depth, plain_bands, plains, depths]
    refine ⟨hK0.1, by omega, by omega, fun r S1 hr hK1 => ⟨by decide, ⟨by have := (plain_bands bs).2; omega, by decide⟩, .inl (by omega), ?_⟩⟩
    have hr2 : ∀ b : Bool, ∃ r' : Nat, (r : Int) * (if b = true then 1 else 0) = r' ∧ r' ≤ m ∧ (b = false → r' = 0) := by
      intro b; cases b
      · exact ⟨0, by simp, Nat.zero_le _, fun _ => rfl⟩
      · exact ⟨r, by simp, by omega, fun z => by cases z⟩
    obtain ⟨r', er, hr', hz⟩ := hr2 (!beq (.tup (bs.map Band.d)) (.tup []))
    rw [er]
    refine ⟨by constructor <;> omega, ?_⟩
    refine wFor_inv (fun i ρ S' => ∃ (hs : List Stroke) (x4 x5 x6 x7 x8 : Option D), ρ = [some (.obj a), some (.tup (bs.map Band.d)), some (.int m), some (.obj p), x4, x5, x6, x7, x8] ∧ hs.length = i ∧ (∀ p ∈ hs, StOk bs p) ∧ S' p = some (.lst (hs.map strokeD)) ∧ Kp a S S') 0
      ⟨[], _, _, _, _, _, rfl, rfl, (fun b hb => by cases hb), hK1.at hpa Sto.set_same, hK0.trans hK1⟩ ?_ ?_
    · rintro j d ρ S' hj ⟨hs, x4, x5, x6, x7, x8, rfl, hl, hh, hS, hK⟩
      have hj2 : j < r' := by
        have := (List.getElem?_eq_some_iff.mp hj).1
        simpa using this
      have hb0 : 0 < bs.length := by
        cases bs with
        | nil => have := hz rfl; omega
        | cons _ _ => simp
      refine ⟨trivial, fun nx hnx => ?_⟩
      simp_arith [x_call h0, φ_pick, List.length_map]
      refine ⟨hK.1, by omega, by omega, fun r2 S2 hr2 hK2 => ?_⟩
      have hr2' : r2 < bs.length := by omega
      have e1 : atI (bs.map Band.d) (r2 : Int) = some (bs[r2]).d := by rw [atI_nat _ _ (by rw [List.length_map]; exact hr2'), List.getElem_map]
      refine ⟨_, _, rfl, e1, _, rfl, rfl, ?_⟩
      have bo := hbo bs[r2] (List.getElem_mem _)
      have hS2 := hK2.at hpa hS
      simp_arith [c_story_0, x_call h0, φ_pick]
      have pl0 := bo.p0
      have pl6 := bo.p6
      refine ⟨app_obj hS2, by unfold lim; omega, hK2.1, by omega, by omega, fun r3 S3 hr3 hK3 => ?_⟩
      have hr3' : r3 < bs[r2].pots.length := by omega
      refine ⟨by unfold lim; omega, bs[r2].pots[r3], atI_nat _ _ hr3', by decide, ?_⟩
      have hS3 := hK3.at hpa hS2
      refine ⟨hs.map strokeD, hS3, by rw [List.length_map]; unfold lim; omega, ?_⟩
      refine hnx _ _ ⟨hs ++ [(bs[r2].name, bs[r2].pots[r3])], _, _, _, _, _, rfl, by rw [List.length_append, hl]; rfl, fun p' hp' => ?_, ?_, ((hK.trans hK2).trans hK3).set hpa hno⟩
      · rcases List.mem_append.mp hp' with hp' | hp'
        · exact hh p' hp'
        · rw [List.mem_singleton.mp hp']
          exact ⟨bs[r2], List.getElem_mem _, rfl, List.getElem_mem _⟩
      · rw [Sto.set_same, List.map_append]
        rfl
    · rintro ρ S' ⟨hs, x4, x5, x6, x7, x8, rfl, hl, hh, hS, hK⟩
      refine ⟨trivial, ?_⟩
      simp_arith [c_story_1]
      refine ⟨_, seq_obj hS, _, Sub.refl _, q hs S' ?_ hh hK⟩
      rw [hl]
      simp
      omega
/-! ### painted, stroke by stroke -/
theorem atI_zero {α : Type} {x : α} {r : List α} : atI (x :: r) 0 = some x := by
  rw [atI_of (by decide) (by simp only [List.length_cons]; omega)]
  rfl
def φ_spots_of : FSp := fun ds S Q E => match ds with
  | [x, .str n] => ∃ bs : List Band, x = .tup (bs.map Band.d) ∧ bs.length ≤ 1000 ∧ (∃ b ∈ bs, b.name = n) ∧ Q (.tup (cellsD (cellsFor bs n))) S
  | _ => False
theorem ok_spots_of : Ok T n_spots_of b_spots_of φ_spots_of := by
  intro ds S Q E hφ
  match ds, hφ with
  | [x, .str n], hh =>
    obtain ⟨bs, rfl, hl, hb, q⟩ := hh
    simp_arith [b_spots_of, n_spots_of]
    refine ⟨_, rfl, ?_⟩
    refine wLc_pure (fun d => d) (fun d => match d with | .tup [.str m, _, _, _] => decide (m = n) | _ => false) trivial (fun d hd k1 k0 hk1 hk0 => ?_) (by rw [List.length_map]; unfold lim; simp only [List.length_nil]; omega) ?_
    · obtain ⟨b, hb, rfl⟩ := List.mem_map.mp hd
      simp_arith [sub_name]
      cases e : decide (b.name = n) with
      | true => exact hk1 e
      | false => exact hk0 e
    rw [List.nil_append, List.map_id', List.filter_map]
    have e1 : (bs.filter ((fun d => match d with | .tup [.str m, _, _, _] => decide (m = n) | _ => false) ∘ Band.d)) = bs.filter fun b => decide (b.name = n) := rfl
    rw [e1]
    obtain ⟨b, hf⟩ : ∃ b, bs.find? (fun b => b.name == n) = some b := by
      obtain ⟨b, hb, e⟩ := hb
      cases hf : bs.find? (fun b => b.name == n) with
      | some b' => exact ⟨b', rfl⟩
      | none => have := List.find?_eq_none.mp hf b hb; simp [e] at this
    have e2 : (bs.filter fun b => decide (b.name = n)).head? = some b := by
      rw [List.head?_filter, show (fun b : Band => decide (b.name = n)) = (fun b => b.name == n) from funext fun b => by by_cases h : b.name = n <;> simp [h]]
      exact hf
    cases hfl : bs.filter fun b => decide (b.name = n) with
    | nil => rw [hfl] at e2; cases e2
    | cons b' r =>
      rw [hfl] at e2
      cases e2
      refine ⟨_, b.d, rfl, atI_zero, ?_⟩
      rw [sub_cells]
      refine ⟨S, Sub.refl S, ?_⟩
      have : cellsFor bs n = b.cells := by unfold cellsFor; rw [hf]
      rw [this] at q
      exact q
def paintF (bs : List Band) (pic : List Nat) (hs : List Stroke) : List Nat := hs.foldl (fun pic p => setAll pic (cellsFor bs p.1) p.2) pic
theorem paintF_len (bs : List Band) (hs : List Stroke) : ∀ pic : List Nat, (paintF bs pic hs).length = pic.length := by
  unfold paintF
  induction hs with
  | nil => intro pic; rfl
  | cons p r ih => intro pic; rw [List.foldl_cons, ih, setAll_len]
theorem paintF_take (bs : List Band) (hs : List Stroke) (pic : List Nat) {i : Nat} {p : Stroke} (h : hs[i]? = some p) : paintF bs pic (hs.take (i + 1)) = setAll (paintF bs pic (hs.take i)) (cellsFor bs p.1) p.2 := by
  unfold paintF
  rw [List.take_add_one, h, Option.toList_some, List.foldl_append]
  rfl
def signs (s : List Nat) : List D := s.map fun c => D.str [c]
def φ_done : FSp := fun ds S Q E => match ds with
  | [x, .str pic, z] => ∃ (bs : List Band) (hs : List Stroke), x = .tup (bs.map Band.d) ∧ bs.length ≤ 1000 ∧ (∀ b ∈ bs, b.Ok pic.length) ∧ pic.length ≤ 1000 ∧ z = histD hs ∧ (∀ p ∈ hs, StOk bs p) ∧ Q (.str (paintF bs pic hs)) S
  | _ => False
theorem ok_done (h0 : T.Fn f0 φ_spots_of) : Ok T n_done (b_done f0) φ_done := by
  intro ds S Q E hφ
  match ds, hφ with
  | [x, .str pic, z], hh =>
    obtain ⟨bs, hs, rfl, hbl, hbo, hpl, rfl, ho, q⟩ := hh
    simp_arith [b_done, n_done]
    refine ⟨by unfold lim; omega, fun a ha => ?_⟩
    simp_arith [c_done_1, histD]
    refine ⟨_, rfl, ?_⟩
    refine wFor_inv (fun i ρ S' => S' = S.set a (.lst (signs (paintF bs pic (hs.take i)))) ∧ ∃ x4 x5 x6, ρ = [some (.tup (bs.map Band.d)), some (.str pic), some (.tup (hs.map strokeD)), some (.obj a), x4, x5, x6]) 0 ⟨rfl, _, _, _, rfl⟩ ?_ ?_
    · rintro j d ρ S' hj ⟨rfl, x4, x5, x6, rfl⟩
      rw [List.getElem?_map] at hj
      cases hp : hs[j]? with
      | none => rw [hp] at hj; cases hj
      | some p =>
        rw [hp] at hj
        cases hj
        have hst := ho p (List.mem_of_getElem? hp)
        obtain ⟨b, hb, en, hf⟩ := cells_some hst
        have ec : cellsFor bs p.1 = b.cells := by unfold cellsFor; rw [hf]
        refine ⟨trivial, fun nx hnx => ?_⟩
        simp_arith [strokeD, x_call h0, φ_spots_of]
        refine ⟨bs, rfl, hbl, ⟨b, hb, en⟩, _, rfl, ?_⟩
        rw [ec, Nat.zero_add]
        refine wFor_inv (fun i ρ S' => S' = S.set a (.lst (signs (setAll (paintF bs pic (hs.take j)) (b.cells.take i) p.2))) ∧ ∃ x6, ρ = [some (.tup (bs.map Band.d)), some (.str pic), some (.tup (hs.map strokeD)), some (.obj a), some (.str p.1), some (.str [p.2]), x6]) 0 ⟨rfl, _, rfl⟩ ?_ ?_
        · rintro i d ρ S' hi ⟨rfl, x6, rfl⟩
          rw [cellsD_get] at hi
          cases hc : b.cells[i]? with
          | none => rw [hc] at hi; cases hi
          | some c =>
            rw [hc] at hi
            cases hi
            refine ⟨trivial, fun nx2 hnx2 => ?_⟩
            have hcn := (hbo b hb).cn c (List.mem_of_getElem? hc)
            simp_arith [wFn]
            rw [put_lst Sto.set_same]
            refine ⟨(c : Nat), c, rfl, ixN_nat ?_, hnx2 _ _ ⟨?_, _, rfl⟩⟩
            · unfold signs; rw [List.length_map, setAll_len, paintF_len]; exact hcn
            · rw [Sto.set_set, Nat.zero_add, setAll_take _ _ _ hc]
              unfold signs
              rw [List.map_set]
        · rintro ρ S' ⟨rfl, x6, rfl⟩
          refine ⟨trivial, hnx _ _ ⟨?_, _, _, _, rfl⟩⟩
          have e3 : (cellsD b.cells).length = b.cells.length := by unfold cellsD; rw [List.length_map]
          rw [Nat.zero_add, Nat.zero_add, paintF_take bs hs pic hp, ec, e3, List.take_length]
    · rintro ρ S' ⟨rfl, x4, x5, x6, rfl⟩
      refine ⟨trivial, ?_⟩
      rw [List.length_map, Nat.zero_add, List.take_length]
      simp_arith [c_done_0]
      have hl := paintF_len bs hs pic
      refine ⟨trivial, signs (paintF bs pic hs), (paintF bs pic hs).map fun c => [c], seq_obj Sto.set_same, by unfold signs; rw [List.map_map]; rfl, ?_, ?_⟩
      · rw [sum_one, List.length_nil, Nat.mul_zero, Nat.add_zero, hl]; unfold lim; omega
      · rw [jn_nil, flat_one]
        exact ⟨S, Sub.set_new ha, q⟩
end
end G
namespace G
open PySem L2
local macro_rules | `(tactic| simp_arith [$xs,*]) => `(tactic| simp only [wFn, wSs, wS, x_loc, x_const, x_glob, x_bin, x_neg, x_cmp, x_cmp2, x_bool, x_not, x_ite, x_bi, x_meth, x_attr, x_sub, x_sl, x_tup, x_lst, x_lc, x_sset, x_repl, x_dct, x_dc, x_rngT, x_rev, x_ssc, rv_tup, rv_lst, x_isiS, x_isiI, x_isiB, x_isiT, x_isiL, x_isiD, mkV, wB, wEs, wO, wTo, wI, wPs, wL, wLs, wG, wGs, lhsLen, esLen, pick, tgSlots, tgsSlots, wipeD, List.map_cons, List.map_nil, List.append_nil, List.nil_append, List.cons_append, List.length_cons, List.length_nil, Nat.reduceAdd, Nat.reduceSub, List.replicate, List.set_cons_zero, List.set_cons_succ, List.set_nil, List.getElem?_cons_zero, List.getElem?_cons_succ, Option.some.injEq, exists_eq_left', exists_eq_left, exists_eq_right, true_and, and_true, if_true, if_false, Bool.false_eq_true, reduceIte, List.getD_cons_zero, List.getD_cons_succ, tru_bl, tru_int, tru_non, D.bl.injEq, D.int.injEq, o_addI, o_subI, o_mulI, o_divI, o_modI, o_powI, o_addS, o_addL, o_addT, c_ltI, c_leI, c_gtI, c_geI, c_ltS, c_eqI, c_neI, c_eqS, c_neS, b_lenS, b_lenT, b_lenL, b_lenK, b_absI, b_maxI, b_minI, b_intI, b_intB, b_tupS, b_tupL, b_lstS, b_dvm, i_str, i_lst, i_tup, i_lsk, l_str, l_tup, l_lst, l_lsk, n_frz, n_obj, r_one, r_two, ak_non, ak_bl, ak_int, ak_str, ak_tup, ak_lst, ak_dct, kS_non, kS_bl, kS_int, kS_str, kS_tup, kS_lst, kS_dct, kS_ins, kS_obj, kI_non, kI_bl, kI_int, kI_str, kI_tup, kI_lst, kI_dct, kI_ins, kI_obj, kB_non, kB_bl, kB_int, kB_str, kB_tup, kB_lst, kB_dct, kB_ins, kB_obj, kT_non, kT_bl, kT_int, kT_str, kT_tup, kT_lst, kT_dct, kT_ins, kT_obj, kL_non, kD_non, kL_bl, kD_bl, kL_int, kD_int, kL_str, kD_str, kL_tup, kD_tup, kL_lst, kD_lst, kL_dct, kD_dct, kL_ins, kD_ins, c_inS, c_niS, c_inT, c_niT, c_inL, c_niL, c_is, c_isn, c_isB, i_dct, nn_non, nn_int, nn_str, nn_tup, nn_lst, b_tupT, b_rpr, decide_true, decide_false, Bool.not_true, Bool.not_false, Bool.and_true, Bool.true_and, Bool.and_false, Bool.false_and, $xs,*])
/-! P4: how things are shown; the last stroke at a cell. -/
def sgnOk (c : Nat) : Bool := c == 10 || (decide (32 ≤ c) && decide (c ≤ 126))
mutual
/-- small things, shown in few signs -/
def shw : D → Bool
  | .non | .bl _ => true
  | .int i => decide (i.natAbs < 10 ^ 9)
  | .str s => s.all sgnOk
  | .tup xs | .lst xs => shws xs
  | _ => false
def shws : List D → Bool
  | [] => true
  | d :: ds => shw d && shws ds
end
mutual
def rsz : D → Nat
  | .non | .bl _ => 5
  | .int _ => 12
  | .str s => 2 * s.length + 2
  | .tup xs | .lst xs => rszs xs + 4
  | _ => 5
def rszs : List D → Nat
  | [] => 0
  | d :: ds => rsz d + 2 + rszs ds
end
theorem reprChar_len : ∀ c : Fin 127, sgnOk c.val = true → (Builtin.Str.reprChar 39 c.val).length ≤ 2 ∧ (Builtin.Str.reprChar 34 c.val).length ≤ 2 := by decide +kernel
theorem reprChar_le {c q : Nat} (h : sgnOk c = true) (hq : q = 39 ∨ q = 34) : (Builtin.Str.reprChar q c).length ≤ 2 := by
  have hc : c < 127 := by
    unfold sgnOk at h
    simp only [Bool.or_eq_true, beq_iff_eq, Bool.and_eq_true, decide_eq_true_eq] at h
    omega
  have := reprChar_len ⟨c, hc⟩ h
  rcases hq with rfl | rfl
  · exact this.1
  · exact this.2
theorem reprText_len {s : List Nat} (h : s.all sgnOk = true) : (reprText (mkS s)).length ≤ 2 * s.length + 2 := by
  have hq : reprQuote (mkS s) = 39 ∨ reprQuote (mkS s) = 34 := by unfold reprQuote; split <;> simp
  rw [← reprLen_eq]
  generalize reprQuote (mkS s) = q at hq
  show (Array.foldl (fun n c => n + (Builtin.Str.reprChar q c).length) 2 s.toArray) ≤ _
  rw [← Array.foldl_toList, List.toList_toArray]
  have key : ∀ (l : List Nat) (n : Nat), l.all sgnOk = true → l.foldl (fun n c => n + (Builtin.Str.reprChar q c).length) n ≤ 2 * l.length + n := by
    intro l
    induction l with
    | nil => intro n _; simp
    | cons c r ih =>
      intro n hl
      rw [List.all_cons, Bool.and_eq_true] at hl
      have := reprChar_le hl.1 hq
      have := ih (n + (Builtin.Str.reprChar q c).length) hl.2
      rw [List.foldl_cons, List.length_cons]
      omega
  have := key s 2 h
  omega
theorem str_app_len (a b : Str) : (a ++ b).length = a.length + b.length := by
  show (a.cps ++ b.cps).size = _
  rw [Array.size_append]
  rfl
theorem textFrom_le : ∀ (ts : List Str) (k : Nat) (acc : Str), (textFrom k acc ts).length ≤ acc.length + (ts.map fun t => t.length + 2).sum
  | [], k, acc => by unfold textFrom; simp
  | t :: ts, k, acc => by
    unfold textFrom
    have h := textFrom_le ts (k + 1) (acc ++ (if k > 0 then ", " else "" : String) ++ t)
    rw [str_app_len, str_app_len] at h
    rw [List.map_cons, List.sum_cons]
    have h2 : ((if k > 0 then ", " else "" : String) : Str).length ≤ 2 := by split <;> decide +kernel
    omega
theorem join_le : ∀ ts : List Str, (Str.join ", " ts).length ≤ (ts.map fun t => t.length + 2).sum
  | [] => by decide +kernel
  | [t] => by show t.length ≤ _; simp
  | t :: u :: ts => by
    have h := join_le (u :: ts)
    show ((t ++ ", ") ++ Str.join ", " (u :: ts)).length ≤ _
    rw [str_app_len, str_app_len, List.map_cons, List.sum_cons]
    have : (", " : Str).length = 2 := by decide +kernel
    omega
theorem digits_len {i : Int} (h : i.natAbs < 10 ^ 9) : (Str.ofString (toString i)).length ≤ 12 := by
  rw [ofString_digits, mkS_len]
  unfold digits
  rw [List.length_map]
  have nat : ∀ n : Nat, n < 10 ^ 9 → (toString n).toList.length ≤ 11 := by
    intro n hn
    have : (toString n).toList = Nat.toDigits 10 n := by
      show (Nat.repr n).toList = _
      simp [Nat.repr]
    rw [this]
    have hl := Nat.length_toDigits_le_iff (b := 10) (n := n) (k := 11) (by decide) (by decide)
    exact hl.mpr (Nat.lt_trans hn (by decide))
  cases i with
  | ofNat n =>
    have : (toString (Int.ofNat n)).toList = (toString n).toList := rfl
    rw [this]
    have := nat n h
    omega
  | negSucc n =>
    have : (toString (Int.negSucc n)) = "-" ++ toString (n + 1) := rfl
    rw [this, String.toList_append, List.length_append]
    have := nat (n + 1) h
    have e : ("-" : String).toList.length = 1 := by decide
    omega
mutual
theorem shown_le : ∀ d : D, shw d = true → (toPy d).showable = true ∧ (toPy d).shown.length ≤ rsz d
  | .non, _ => by unfold toPy PyData.showable PyData.shown rsz; decide +kernel
  | .bl b, _ => by unfold toPy PyData.showable PyData.shown rsz; cases b <;> decide +kernel
  | .int i, h => by
    unfold shw at h
    rw [decide_eq_true_eq] at h
    unfold toPy PyData.showable PyData.shown rsz
    refine ⟨?_, digits_len h⟩
    rw [decide_eq_true_eq]
    by_cases z : i.natAbs = 0
    · rw [z]; decide
    · exact Nat.lt_trans ((Nat.log2_lt z).mpr (Nat.lt_of_lt_of_le h (by decide : 10 ^ 9 ≤ 2 ^ 30))) (by decide)
  | .str s, h => by
    unfold shw at h
    unfold toPy PyData.showable PyData.shown rsz
    exact ⟨rfl, reprText_len h⟩
  | .tup xs, h => by
    unfold shw at h
    obtain ⟨h1, h2⟩ := shownAll_le xs h
    unfold toPy PyData.showable PyData.shown rsz tupleText
    refine ⟨h1, ?_⟩
    rw [str_app_len, str_app_len]
    have := join_le (PyData.shownAll (toPys xs))
    have e1 : ("(" : Str).length = 1 := by decide +kernel
    have e2 : ((if (PyData.shownAll (toPys xs)).length == 1 then ",)" else ")" : String) : Str).length ≤ 2 := by split <;> decide +kernel
    omega
  | .lst xs, h => by
    unfold shw at h
    obtain ⟨h1, h2⟩ := shownAll_le xs h
    unfold toPy PyData.showable PyData.shown rsz listText
    refine ⟨h1, ?_⟩
    rw [str_app_len]
    have := textFrom_le (PyData.shownAll (toPys xs)) 0 "["
    have e1 : ("[" : Str).length = 1 := by decide +kernel
    have e2 : ("]" : Str).length = 1 := by decide +kernel
    omega
  | .lsk _, h => by unfold shw at h; cases h
  | .obj _, h => by unfold shw at h; cases h
  | .ty _, h => by unfold shw at h; cases h
  | .gl _, h => by unfold shw at h; cases h
  | .ins _ _ _, h => by unfold shw at h; cases h
  | .dct _ _, h => by unfold shw at h; cases h
theorem shownAll_le : ∀ ds : List D, shws ds = true → PyData.showableAll (toPys ds) = true ∧ ((PyData.shownAll (toPys ds)).map fun t => t.length + 2).sum ≤ rszs ds
  | [], _ => by unfold toPys PyData.showableAll PyData.shownAll rszs; exact ⟨rfl, Nat.le_refl _⟩
  | d :: ds, h => by
    unfold shws at h
    rw [Bool.and_eq_true] at h
    obtain ⟨a1, a2⟩ := shown_le d h.1
    obtain ⟨b1, b2⟩ := shownAll_le ds h.2
    unfold toPys PyData.showableAll PyData.shownAll rszs
    rw [a1, b1, List.map_cons, List.sum_cons]
    exact ⟨rfl, by omega⟩
end
mutual
theorem shw_plain : ∀ d : D, shw d = true → plain d = true
  | .non, _ => by unfold plain; rfl
  | .bl b, _ => by unfold plain; rfl
  | .int i, _ => by unfold plain; rfl
  | .str s, _ => by unfold plain; rfl
  | .tup xs, h => by unfold shw at h; unfold plain; exact shws_plain xs h
  | .lst xs, h => by unfold shw at h; unfold plain; exact shws_plain xs h
  | .lsk _, h => by unfold shw at h; cases h
  | .obj _, h => by unfold shw at h; cases h
  | .ty _, h => by unfold shw at h; cases h
  | .gl _, h => by unfold shw at h; cases h
  | .ins _ _ _, h => by unfold shw at h; cases h
  | .dct _ _, h => by unfold shw at h; cases h
theorem shws_plain : ∀ ds : List D, shws ds = true → plains ds = true
  | [], _ => by unfold plains; rfl
  | d :: ds, h => by
    unfold shws at h
    rw [Bool.and_eq_true] at h
    unfold plains
    rw [shw_plain d h.1, shws_plain ds h.2]; rfl
end
/-- what is asked where a thing is shown -/
theorem repr_ok {d : D} (hc : isC d = true) (hs : shw d = true) (hd : depth d ≤ 64) (hz : rsz d ≤ lim) : isC d = true ∧ plain d = true ∧ depth d ≤ 64 ∧ (toPy d).showable = true ∧ (reprD d).length ≤ lim := by
  obtain ⟨a, b⟩ := shown_le d hs
  refine ⟨hc, shw_plain d hs, hd, a, ?_⟩
  have : (reprD d).length = (toPy d).shown.length := by
    show ((toPy d).shown.cps.toList).length = (toPy d).shown.cps.size
    simp
  omega
/-! ### of lists -/
theorem shws_all {ds : List D} (h : ∀ d ∈ ds, shw d = true) : shws ds = true := by
  induction ds with
  | nil => rfl
  | cons d r ih =>
    unfold shws
    rw [h d (by simp), ih fun x hx => h x (by simp [hx])]; rfl
theorem rszs_le {ds : List D} {n : Nat} (h : ∀ d ∈ ds, rsz d ≤ n) : rszs ds ≤ ds.length * (n + 2) := by
  induction ds with
  | nil => simp [rszs]
  | cons d r ih =>
    unfold rszs
    have h1 := h d (by simp)
    have h2 := ih fun x hx => h x (by simp [hx])
    rw [List.length_cons, Nat.add_mul, Nat.one_mul]
    omega
theorem depths_le {ds : List D} {n : Nat} (h : ∀ d ∈ ds, depth d ≤ n) : depths ds ≤ n := by
  induction ds with
  | nil => simp [depths]
  | cons d r ih =>
    unfold depths
    have h1 := h d (by simp)
    have h2 := ih fun x hx => h x (by simp [hx])
    omega
theorem sgn_abc : ∀ c ∈ abc, sgnOk c = true := by decide
theorem shw_letters {s : List Nat} (h : letters s) : shw (.str s) = true := by
  unfold shw
  rw [List.all_eq_true]
  exact fun c hc => sgn_abc c (h c hc)
theorem shw_cells {cs : List Nat} {n : Nat} (h : ∀ c ∈ cs, c < n) (hn : n ≤ 1000) (hl : cs.length ≤ 1000) : shw (.tup (cellsD cs)) = true ∧ rsz (.tup (cellsD cs)) ≤ 14 * cs.length + 4 ∧ depth (.tup (cellsD cs)) ≤ 1 := by
  refine ⟨?_, ?_, ?_⟩
  · unfold shw
    refine shws_all fun d hd => ?_
    obtain ⟨c, hc, rfl⟩ := List.mem_map.mp hd
    unfold shw
    have := h c hc
    rw [decide_eq_true_eq]
    omega
  · unfold rsz
    have := rszs_le (ds := cellsD cs) (n := 12) fun d hd => by
      obtain ⟨c, hc, rfl⟩ := List.mem_map.mp hd
      unfold rsz
      omega
    unfold cellsD at this ⊢
    rw [List.length_map] at this
    omega
  · unfold depth
    have := (plain_cells cs).2
    omega
theorem shw_band {b : Band} {n : Nat} (h : b.Ok n) (hn : n ≤ 36) : shw b.d = true ∧ rsz b.d ≤ 600 ∧ depth b.d ≤ 2 := by
  have hl := h.len
  obtain ⟨c1, c2, c3⟩ := shw_cells h.cn (by omega) (by omega)
  have n6 := h.n6
  have p6 := h.p6
  have k9 := h.k9
  refine ⟨?_, ?_, ?_⟩
  · show shw (.tup [.str b.name, .tup (cellsD b.cells), .str b.pots, .int b.cost]) = true
    have e : shw (.int b.cost) = true := by unfold shw; rw [decide_eq_true_eq]; omega
    unfold shw shws shws shws shws shws
    rw [shw_letters h.nl, c1, shw_letters h.pl, e]; rfl
  · show rsz (.tup [.str b.name, .tup (cellsD b.cells), .str b.pots, .int b.cost]) ≤ 600
    have e1 : rsz (.str b.name) = 2 * b.name.length + 2 := by unfold rsz; rfl
    have e2 : rsz (.str b.pots) = 2 * b.pots.length + 2 := by unfold rsz; rfl
    have e3 : rsz (.int b.cost) = 12 := by unfold rsz; rfl
    unfold rsz rszs rszs rszs rszs rszs
    omega
  · show depth (.tup [.str b.name, .tup (cellsD b.cells), .str b.pots, .int b.cost]) ≤ 2
    have e1 : depth (.str b.name) = 0 := by unfold depth; rfl
    have e2 : depth (.str b.pots) = 0 := by unfold depth; rfl
    have e3 : depth (.int b.cost) = 0 := by unfold depth; rfl
    unfold depth depths depths depths depths depths
    omega
theorem shw_bands {bs : List Band} {n : Nat} (h : ∀ b ∈ bs, b.Ok n) (hn : n ≤ 36) (hl : bs.length ≤ 12) : shw (.tup (bs.map Band.d)) = true ∧ rsz (.tup (bs.map Band.d)) ≤ 8000 ∧ depth (.tup (bs.map Band.d)) ≤ 3 := by
  refine ⟨?_, ?_, ?_⟩
  · unfold shw
    refine shws_all fun d hd => ?_
    obtain ⟨b, hb, rfl⟩ := List.mem_map.mp hd
    exact (shw_band (h b hb) hn).1
  · unfold rsz
    have := rszs_le (ds := bs.map Band.d) (n := 600) fun d hd => by
      obtain ⟨b, hb, rfl⟩ := List.mem_map.mp hd
      exact (shw_band (h b hb) hn).2.1
    rw [List.length_map] at this
    have : bs.length * 602 ≤ 12 * 602 := Nat.mul_le_mul_right _ hl
    omega
  · unfold depth
    have := (plain_bands bs).2
    omega
theorem shw_hist {bs : List Band} {n : Nat} {hs : List Stroke} (h : ∀ b ∈ bs, b.Ok n) (ho : ∀ p ∈ hs, StOk bs p) (hl : hs.length ≤ 200) : shw (histD hs) = true ∧ rsz (histD hs) ≤ 8000 ∧ depth (histD hs) ≤ 2 := by
  have one : ∀ p ∈ hs, shw (strokeD p) = true ∧ rsz (strokeD p) ≤ 30 ∧ depth (strokeD p) ≤ 1 := by
    intro p hp
    obtain ⟨b, hb, e1, e2⟩ := ho p hp
    have bo := h b hb
    have n6 := bo.n6
    have l1 : letters p.1 := by rw [← e1]; exact bo.nl
    have l2 : letters [p.2] := fun c hc => by rw [List.mem_singleton.mp hc]; exact bo.pl _ e2
    refine ⟨?_, ?_, ?_⟩
    · show shw (.tup [.str p.1, .str [p.2]]) = true
      unfold shw shws shws shws
      rw [shw_letters l1, shw_letters l2]; rfl
    · show rsz (.tup [.str p.1, .str [p.2]]) ≤ 30
      have e3 : rsz (.str p.1) = 2 * p.1.length + 2 := by unfold rsz; rfl
      have e4 : rsz (.str [p.2]) = 4 := by unfold rsz; rfl
      unfold rsz rszs rszs rszs
      rw [e3, e4, ← e1]
      omega
    · show depth (.tup [.str p.1, .str [p.2]]) ≤ 1
      unfold depth depths depths depths
      have e3 : depth (.str p.1) = 0 := by unfold depth; rfl
      have e4 : depth (.str [p.2]) = 0 := by unfold depth; rfl
      omega
  refine ⟨?_, ?_, ?_⟩
  · unfold histD shw
    refine shws_all fun d hd => ?_
    obtain ⟨p, hp, rfl⟩ := List.mem_map.mp hd
    exact (one p hp).1
  · unfold histD rsz
    have := rszs_le (ds := hs.map strokeD) (n := 30) fun d hd => by
      obtain ⟨p, hp, rfl⟩ := List.mem_map.mp hd
      exact (one p hp).2.1
    rw [List.length_map] at this
    have : hs.length * 32 ≤ 200 * 32 := Nat.mul_le_mul_right _ hl
    omega
  · unfold histD depth
    have := depths_le (ds := hs.map strokeD) (n := 1) fun d hd => by
      obtain ⟨p, hp, rfl⟩ := List.mem_map.mp hd
      exact (one p hp).2.2
    omega
end G
namespace G
open PySem L2
local macro_rules | `(tactic| simp_arith [$xs,*]) => `(tactic| simp only [wFn, wSs, wS, x_loc, x_const, x_glob, x_bin, x_neg, x_cmp, x_cmp2, x_bool, x_not, x_ite, x_bi, x_meth, x_attr, x_sub, x_sl, x_tup, x_lst, x_lc, x_sset, x_repl, x_dct, x_dc, x_rngT, x_rev, x_ssc, rv_tup, rv_lst, x_isiS, x_isiI, x_isiB, x_isiT, x_isiL, x_isiD, mkV, wB, wEs, wO, wTo, wI, wPs, wL, wLs, wG, wGs, lhsLen, esLen, pick, tgSlots, tgsSlots, wipeD, List.map_cons, List.map_nil, List.append_nil, List.nil_append, List.cons_append, List.length_cons, List.length_nil, Nat.reduceAdd, Nat.reduceSub, List.replicate, List.set_cons_zero, List.set_cons_succ, List.set_nil, List.getElem?_cons_zero, List.getElem?_cons_succ, Option.some.injEq, exists_eq_left', exists_eq_left, exists_eq_right, true_and, and_true, if_true, if_false, Bool.false_eq_true, reduceIte, List.getD_cons_zero, List.getD_cons_succ, tru_bl, tru_int, tru_non, D.bl.injEq, D.int.injEq, o_addI, o_subI, o_mulI, o_divI, o_modI, o_powI, o_addS, o_addL, o_addT, c_ltI, c_leI, c_gtI, c_geI, c_ltS, c_eqI, c_neI, c_eqS, c_neS, b_lenS, b_lenT, b_lenL, b_lenK, b_absI, b_maxI, b_minI, b_intI, b_intB, b_tupS, b_tupL, b_lstS, b_dvm, i_str, i_lst, i_tup, i_lsk, l_str, l_tup, l_lst, l_lsk, n_frz, n_obj, r_one, r_two, ak_non, ak_bl, ak_int, ak_str, ak_tup, ak_lst, ak_dct, kS_non, kS_bl, kS_int, kS_str, kS_tup, kS_lst, kS_dct, kS_ins, kS_obj, kI_non, kI_bl, kI_int, kI_str, kI_tup, kI_lst, kI_dct, kI_ins, kI_obj, kB_non, kB_bl, kB_int, kB_str, kB_tup, kB_lst, kB_dct, kB_ins, kB_obj, kT_non, kT_bl, kT_int, kT_str, kT_tup, kT_lst, kT_dct, kT_ins, kT_obj, kL_non, kD_non, kL_bl, kD_bl, kL_int, kD_int, kL_str, kD_str, kL_tup, kD_tup, kL_lst, kD_lst, kL_dct, kD_dct, kL_ins, kD_ins, c_inS, c_niS, c_inT, c_niT, c_inL, c_niL, c_is, c_isn, c_isB, i_dct, nn_non, nn_int, nn_str, nn_tup, nn_lst, b_tupT, b_rpr, decide_true, decide_false, Bool.not_true, Bool.not_false, Bool.and_true, Bool.true_and, Bool.and_false, Bool.false_and, $xs,*])
/-! P5: the last stroke at a cell, and what is painted. -/
/-- the colour of the last stroke that has a cell -/
def lastCol (bs : List Band) : List Stroke → Nat → Option Nat
  | [], _ => none
  | p :: r, c => match lastCol bs r c with
    | some x => some x
    | none => if c ∈ cellsFor bs p.1 then some p.2 else none
/-- its number -/
def lastIdx (bs : List Band) : List Stroke → Nat → Nat → Option Nat
  | [], _, _ => none
  | p :: r, i, c => match lastIdx bs r (i + 1) c with
    | some x => some x
    | none => if c ∈ cellsFor bs p.1 then some i else none
theorem setAll_get {α : Type} (cs : List Nat) (v : α) : ∀ (xs : List α) (i : Nat), (setAll xs cs v)[i]? = if i ∈ cs then (xs[i]?).map fun _ => v else xs[i]? := by
  unfold setAll
  induction cs with
  | nil => intro xs i; simp
  | cons c r ih =>
    intro xs i
    have hs : (xs.set c v)[i]? = if c = i then (xs[i]?).map (fun _ => v) else xs[i]? := by
      rw [List.getElem?_set]
      by_cases h : c = i
      · subst h
        by_cases h3 : c < xs.length
        · simp [h3]
        · simp [h3]
      · simp [h]
    rw [List.foldl_cons, ih, hs]
    by_cases h1 : i ∈ r <;> by_cases h2 : c = i
    · subst h2; cases xs[c]? <;> simp [h1]
    · simp [h1, h2]
    · subst h2; cases xs[c]? <;> simp [h1]
    · have : ¬ i = c := fun z => h2 z.symm
      simp [h1, h2, this]
theorem paintF_get (bs : List Band) (hs : List Stroke) : ∀ (pic : List Nat) (c : Nat), (paintF bs pic hs)[c]? = (pic[c]?).map fun s => (lastCol bs hs c).getD s := by
  induction hs with
  | nil => intro pic c; show pic[c]? = _; cases pic[c]? <;> rfl
  | cons p r ih =>
    intro pic c
    show (paintF bs (setAll pic (cellsFor bs p.1) p.2) r)[c]? = _
    have e : lastCol bs (p :: r) c = match lastCol bs r c with | some x => some x | none => if c ∈ cellsFor bs p.1 then some p.2 else none := rfl
    rw [ih, setAll_get, e]
    cases lastCol bs r c with
    | some x => by_cases h : c ∈ cellsFor bs p.1 <;> cases pic[c]? <;> simp [h]
    | none => by_cases h : c ∈ cellsFor bs p.1 <;> cases pic[c]? <;> simp [h]
theorem lastN_get (bs : List Band) (hs : List Stroke) : ∀ (i : Nat) (xs : List (Option Nat)) (c : Nat), (lastN bs hs i xs)[c]? = (xs[c]?).map fun o => match lastIdx bs hs i c with | some j => some j | none => o := by
  induction hs with
  | nil => intro i xs c; show xs[c]? = _; cases xs[c]? <;> rfl
  | cons p r ih =>
    intro i xs c
    show (lastN bs r (i + 1) (setAll xs (cellsFor bs p.1) (some i)))[c]? = _
    have e : lastIdx bs (p :: r) i c = match lastIdx bs r (i + 1) c with | some x => some x | none => if c ∈ cellsFor bs p.1 then some i else none := rfl
    rw [ih, setAll_get, e]
    cases lastIdx bs r (i + 1) c with
    | some x => by_cases h : c ∈ cellsFor bs p.1 <;> cases xs[c]? <;> simp [h]
    | none => by_cases h : c ∈ cellsFor bs p.1 <;> cases xs[c]? <;> simp [h]
theorem lastNs_get {bs : List Band} {n : Nat} {hs : List Stroke} {c : Nat} (h : c < n) : (lastNs bs n hs)[c]? = some (lastIdx bs hs 0 c) := by
  unfold lastNs
  rw [lastN_get, List.getElem?_replicate, if_pos h]
  cases lastIdx bs hs 0 c <;> rfl
theorem lastIdx_col (bs : List Band) (c : Nat) : ∀ (hs pre : List Stroke), (colAt (pre ++ hs) (lastIdx bs hs pre.length c)) = lastCol bs hs c
  | [], pre => rfl
  | p :: r, pre => by
    have ih := lastIdx_col bs c r (pre ++ [p])
    rw [List.append_assoc, List.singleton_append, List.length_append, List.length_singleton] at ih
    have e1 : lastIdx bs (p :: r) pre.length c = match lastIdx bs r (pre.length + 1) c with | some x => some x | none => if c ∈ cellsFor bs p.1 then some pre.length else none := rfl
    have e2 : lastCol bs (p :: r) c = match lastCol bs r c with | some x => some x | none => if c ∈ cellsFor bs p.1 then some p.2 else none := rfl
    rw [e1, e2, ← ih]
    cases hi : lastIdx bs r (pre.length + 1) c with
    | some j =>
      cases hc : colAt (pre ++ p :: r) (some j) with
      | some x => rfl
      | none =>
        -- a number that is told is there
        exfalso
        have lt : ∀ (hs : List Stroke) (i j : Nat), lastIdx bs hs i c = some j → i ≤ j ∧ j < i + hs.length := by
          intro hs
          induction hs with
          | nil => intro i j h; cases h
          | cons q t iht =>
            intro i j h
            unfold lastIdx at h
            cases ht : lastIdx bs t (i + 1) c with
            | some x =>
              rw [ht] at h
              cases h
              have := iht (i + 1) _ ht
              rw [List.length_cons]; omega
            | none =>
              rw [ht] at h
              dsimp only at h
              split at h
              · cases h; rw [List.length_cons]; omega
              · cases h
        have := lt r (pre.length + 1) j hi
        have e : (pre ++ p :: r)[j]? = none := by
          have hc' : ((pre ++ p :: r)[j]?).map (·.2) = none := hc
          rwa [Option.map_eq_none_iff] at hc'
        rw [List.getElem?_eq_none_iff, List.length_append, List.length_cons] at e
        omega
    | none =>
      show colAt (pre ++ p :: r) (if c ∈ cellsFor bs p.1 then some pre.length else none) = if c ∈ cellsFor bs p.1 then some p.2 else none
      split
      · show ((pre ++ p :: r)[pre.length]?).map (·.2) = _
        simp
      · rfl
theorem lastCs_get {bs : List Band} {n : Nat} {hs : List Stroke} {c : Nat} (h : c < n) : (lastCs bs n hs)[c]? = some (lastCol bs hs c) := by
  unfold lastCs
  rw [List.getElem?_map, lastNs_get h]
  exact congrArg some (lastIdx_col bs c hs [])
theorem paintL_eq (bs : List Band) (pic : List Nat) (hs : List Stroke) : paintL bs pic hs = paintF bs pic hs := by
  apply List.ext_getElem?
  intro c
  rw [paintF_get]
  unfold paintL
  rw [List.getElem?_zipWith]
  by_cases h : c < pic.length
  · rw [lastCs_get h, List.getElem?_eq_getElem h]
    rfl
  · rw [List.getElem?_eq_none (by omega)]
    rfl
theorem paintF_app (bs : List Band) (pic : List Nat) (a b : List Stroke) : paintF bs (paintF bs pic a) b = paintF bs pic (a ++ b) := by
  unfold paintF
  rw [List.foldl_append]
theorem paintF_twice (bs : List Band) (pic : List Nat) (hs : List Stroke) : paintF bs (paintF bs pic hs) hs = paintF bs pic hs := by
  apply List.ext_getElem?
  intro c
  rw [paintF_get, paintF_get]
  cases pic[c]? <;> cases lastCol bs hs c <;> rfl
theorem cellsFor_lt {bs : List Band} {n : Nat} (h : ∀ b ∈ bs, b.Ok n) {m : List Nat} : ∀ c ∈ cellsFor bs m, c < n := by
  unfold cellsFor
  split
  · rename_i b hf
    exact (h b (List.mem_of_find?_eq_some hf)).cn
  · intro c hc; cases hc
theorem paintF_letters {bs : List Band} {n : Nat} (hb : ∀ b ∈ bs, b.Ok n) {hs : List Stroke} : ∀ {pic : List Nat}, letters pic → (∀ p ∈ hs, StOk bs p) → letters (paintF bs pic hs) := by
  induction hs with
  | nil => intro pic hl _; exact hl
  | cons p r ih =>
    intro pic hl ho
    refine ih (pic := setAll pic (cellsFor bs p.1) p.2) (fun c hc => ?_) fun q hq => ho q (by simp [hq])
    rcases setAll_mem hc with hc | hc
    · exact hl c hc
    · obtain ⟨b, hb', e1, e2⟩ := ho p (by simp)
      rw [hc]
      exact (hb b hb').pl _ e2
theorem HsOk.sub {bs : List Band} {hs ks : List Stroke} (h : HsOk bs hs) (hs' : ∀ p ∈ ks, p ∈ hs) (hl : ks.length ≤ 60) : HsOk bs ks := ⟨hl, fun p hp => h.2 p (hs' p hp)⟩
end G
namespace G
open PySem L2
def c_scene_0 (f0 f1 f2 f3 : Str) : Ss := (.cons (.ret (.lst true (.cons (.tup (.cons (.loc 6) (.cons (.loc 7) (.cons (.loc 2) .nil)))) (.cons (.call f3 (.cons (.loc 0) (.cons (.bin .Mult (.loc 6) (.loc 7)) .nil)) []) (.cons (.loc 3) .nil))))) .nil)
def c_scene_1 (f0 f1 f2 f3 : Str) : Ss := (.cons (.asg (.name 3) (.call f2 (.cons (.loc 0) (.cons (.loc 2) (.cons (.sub (.lst true (.cons (.const (.int 12)) (.cons (.const (.int 60)) .nil))) (.bi true .int (.cons (.cmp .Eq (.loc 1) (.const (.int 5))) .nil))) .nil))) [])) (c_scene_0 f0 f1 f2 f3))
def c_scene_2 (f0 f1 f2 f3 : Str) : Ss := (.cons (.asg (.name 2) (.call f1 (.cons (.loc 0) (.cons (.loc 6) (.cons (.loc 7) (.cons (.call f0 (.cons (.loc 0) (.cons (.bin .Add (.loc 5) (.const (.int 1))) .nil)) []) .nil)))) [])) (c_scene_1 f0 f1 f2 f3))
def c_scene_3 (f0 f1 f2 f3 : Str) : Ss := (.cons (.par 6 7 (.bin .Add (.const (.int 1)) (.call f0 (.cons (.loc 0) (.cons (.loc 4) .nil)) [])) (.bin .Add (.const (.int 1)) (.call f0 (.cons (.loc 0) (.cons (.loc 4) .nil)) []))) (c_scene_2 f0 f1 f2 f3))
def c_scene_4 (f0 f1 f2 f3 : Str) : Ss := (.cons (.par 4 5 (.sub (.lst true (.cons (.const (.int 3)) (.cons (.const (.int 6)) .nil))) (.bi true .int (.cons (.cmp .Eq (.loc 1) (.const (.int 3))) .nil))) (.sub (.lst true (.cons (.const (.int 5)) (.cons (.const (.int 12)) .nil))) (.bi true .int (.cons (.cmp .Eq (.loc 1) (.const (.int 3))) .nil)))) (c_scene_3 f0 f1 f2 f3))
def b_scene (f0 f1 f2 f3 : Str) : Ss := (.cons (.asg (.name 1) (.call f0 (.cons (.loc 0) (.cons (.const (.int 8)) .nil)) [])) (c_scene_4 f0 f1 f2 f3))
def n_scene : Nat := 8
end G
namespace G
open PySem L2
local macro_rules | `(tactic| simp_arith [$xs,*]) => `(tactic| simp only [wFn, wSs, wS, x_loc, x_const, x_glob, x_bin, x_neg, x_cmp, x_cmp2, x_bool, x_not, x_ite, x_bi, x_meth, x_attr, x_sub, x_sl, x_tup, x_lst, x_lc, x_sset, x_repl, x_dct, x_dc, x_rngT, x_rev, x_ssc, rv_tup, rv_lst, x_isiS, x_isiI, x_isiB, x_isiT, x_isiL, x_isiD, mkV, wB, wEs, wO, wTo, wI, wPs, wL, wLs, wG, wGs, lhsLen, esLen, pick, tgSlots, tgsSlots, wipeD, List.map_cons, List.map_nil, List.append_nil, List.nil_append, List.cons_append, List.length_cons, List.length_nil, Nat.reduceAdd, Nat.reduceSub, List.replicate, List.set_cons_zero, List.set_cons_succ, List.set_nil, List.getElem?_cons_zero, List.getElem?_cons_succ, Option.some.injEq, exists_eq_left', exists_eq_left, exists_eq_right, true_and, and_true, if_true, if_false, Bool.false_eq_true, reduceIte, List.getD_cons_zero, List.getD_cons_succ, tru_bl, tru_int, tru_non, D.bl.injEq, D.int.injEq, o_addI, o_subI, o_mulI, o_divI, o_modI, o_powI, o_addS, o_addL, o_addT, c_ltI, c_leI, c_gtI, c_geI, c_ltS, c_eqI, c_neI, c_eqS, c_neS, b_lenS, b_lenT, b_lenL, b_lenK, b_absI, b_maxI, b_minI, b_intI, b_intB, b_tupS, b_tupL, b_lstS, b_dvm, i_str, i_lst, i_tup, i_lsk, l_str, l_tup, l_lst, l_lsk, n_frz, n_obj, r_one, r_two, ak_non, ak_bl, ak_int, ak_str, ak_tup, ak_lst, ak_dct, kS_non, kS_bl, kS_int, kS_str, kS_tup, kS_lst, kS_dct, kS_ins, kS_obj, kI_non, kI_bl, kI_int, kI_str, kI_tup, kI_lst, kI_dct, kI_ins, kI_obj, kB_non, kB_bl, kB_int, kB_str, kB_tup, kB_lst, kB_dct, kB_ins, kB_obj, kT_non, kT_bl, kT_int, kT_str, kT_tup, kT_lst, kT_dct, kT_ins, kT_obj, kL_non, kD_non, kL_bl, kD_bl, kL_int, kD_int, kL_str, kD_str, kL_tup, kD_tup, kL_lst, kD_lst, kL_dct, kD_dct, kL_ins, kD_ins, c_inS, c_niS, c_inT, c_niT, c_inL, c_niL, c_is, c_isn, c_isB, i_dct, nn_non, nn_int, nn_str, nn_tup, nn_lst, b_tupT, b_rpr, decide_true, decide_false, Bool.not_true, Bool.not_false, Bool.and_true, Bool.true_and, Bool.and_false, Bool.false_and, $xs,*])
/-! H5: a scene that is drawn. -/
section
variable {T : Tab} {f0 f1 f2 f3 : Str}
theorem atI_if {α : Type} {x y : α} (b : Bool) : atI [x, y] (if b = true then 1 else 0) = some (if b = true then y else x) := by cases b <;> rfl
mutual
theorem beq_refl : ∀ d : D, plain d = true → beq d d = true
  | .non, _ => by unfold beq; rfl
  | .bl b, _ => by unfold beq; simp
  | .int i, _ => by unfold beq; simp
  | .str s, _ => by unfold beq; simp
  | .tup xs, h => by unfold plain at h; unfold beq; exact beqs_refl xs h
  | .lst xs, h => by unfold plain at h; unfold beq; exact beqs_refl xs h
  | .lsk _, h => by unfold plain at h; cases h
  | .obj _, h => by unfold plain at h; cases h
  | .ty _, h => by unfold plain at h; cases h
  | .gl _, h => by unfold plain at h; cases h
  | .ins _ _ _, h => by unfold plain at h; cases h
  | .dct _ _, h => by unfold plain at h; cases h
theorem beqs_refl : ∀ ds : List D, plains ds = true → beqs ds ds = true
  | [], _ => by unfold beqs; rfl
  | d :: ds, h => by
    unfold plains at h
    rw [Bool.and_eq_true] at h
    unfold beqs
    rw [beq_refl d h.1, beqs_refl ds h.2]; rfl
end
def sceneD (h w : Nat) (bs : List Band) (pic : List Nat) (hs : List Stroke) : D := .lst [.tup [.int h, .int w, .tup (bs.map Band.d)], .str pic, histD hs]
def φ_scene : FSp := fun ds S Q E => match ds with
  | [.obj a] => PS a S ∧ ∀ h w bs pic hs S', BOk h w bs → letters pic → pic.length = h * w → HsOk bs hs → Kp a S S' → Q (sceneD h w bs pic hs) S'
  | _ => False
theorem ok_scene (h0 : T.Fn f0 φ_pick) (h1 : T.Fn f1 φ_belts) (h2 : T.Fn f2 φ_story) (h3 : T.Fn f3 φ_view) : Ok T n_scene (b_scene f0 f1 f2 f3) φ_scene := by
  intro ds S Q E hφ
  match ds, hφ with
  | [.obj a], hh =>
    obtain ⟨hps, q⟩ := hh
    simp_arith [b_scene, n_scene, x_call h0, φ_pick]
    refine ⟨hps, by decide, by decide, fun r S1 hr hK1 => ?_⟩
    simp_arith [c_scene_4, atI_if]
    refine ⟨by decide, _, _, rfl, atI_if _, by decide, _, _, rfl, atI_if _, ?_⟩
    obtain ⟨sd, esd, s3, s6⟩ : ∃ sd : Nat, (if decide ((r : Int) = 3) = true then D.int 6 else D.int 3) = .int sd ∧ 3 ≤ sd ∧ sd ≤ 6 := by
      split
      · exact ⟨6, rfl, by decide, by decide⟩
      · exact ⟨3, rfl, by decide, by decide⟩
    obtain ⟨mn, emn, m12⟩ : ∃ mn : Nat, (if decide ((r : Int) = 3) = true then D.int 12 else D.int 5) = .int mn ∧ mn ≤ 12 := by
      split
      · exact ⟨12, rfl, by decide⟩
      · exact ⟨5, rfl, by decide⟩
    rw [esd, emn]
    simp_arith [c_scene_3, x_call h0, φ_pick]
    refine ⟨hK1.1, by omega, by omega, fun r2 S2 hr2 hK2 => ⟨hK2.1, by omega, by omega, fun r3 S3 hr3 hK3 => ?_⟩⟩
    have et : (1 : Int) + (r2 : Int) = ((1 + r2 : Nat) : Int) := by simp
    have ew : (1 : Int) + (r3 : Int) = ((1 + r3 : Nat) : Int) := by simp
    rw [et, ew]
    simp_arith [c_scene_2, x_call h0, x_call h1, φ_pick, φ_belts]
    refine ⟨hK3.1, by omega, by omega, fun r4 S4 hr4 hK4 => ⟨hK4.1, 1 + r2, 1 + r3, r4, rfl, rfl, rfl, by omega, by omega, by omega, by omega, by omega, fun bs S5 hbl hbo hnd hK5 => ?_⟩⟩
    have hB : BOk (1 + r2) (1 + r3) bs := ⟨by omega, by omega, by omega, by omega, by omega, hbo, hnd⟩
    simp_arith [c_scene_1, x_call h2, φ_story, atI_if]
    refine ⟨by decide, _, _, rfl, atI_if _, ?_⟩
    obtain ⟨um, eum, u60⟩ : ∃ um : Nat, (if decide ((r : Int) = 5) = true then D.int 60 else D.int 12) = .int um ∧ um ≤ 60 := by
      split
      · exact ⟨60, rfl, by decide⟩
      · exact ⟨12, rfl, by decide⟩
    rw [eum]
    refine ⟨hK5.1, bs, (1 + r2) * (1 + r3), um, rfl, by omega, hbo, rfl, u60, fun hs S6 hhl hho hK6 => ?_⟩
    simp_arith [c_scene_0, x_call h3, φ_view]
    refine ⟨by decide, .inl (by omega), hK6.1, (1 + r2) * (1 + r3), by simp, by have := hB.n36; omega, fun pic S7 hpl hpn hK7 => ?_⟩
    refine ⟨by decide, _, Sub.refl _, q _ _ bs pic hs S7 hB hpl hpn ⟨by omega, hho⟩ ((((((hK1.trans hK2).trans hK3).trans hK4).trans hK5).trans hK6).trans hK7)⟩
/-- a law's own question, by a purse -/
def φ_ask : FSp := fun ds S Q E => match ds with
  | [.obj a] => PS a S ∧ ∀ S', Q (.bl true) S'
  | _ => False
def φ_law : FSp := fun ds S Q E => match ds with
  | [x] => ∃ ns : List Int, x = .lsk (ns.map .int) ∧ ns.length ≤ 63 ∧ ∀ S', Q (.bl true) S'
  | _ => False
theorem all_reps (n : Nat) : (List.replicate n true).all id = true := by simp
/-- how many times a law asks: two at least -/
theorem times {k l m : Int} (hk : 0 ≤ k) (hk' : k ≤ 100) (hm : 0 ≤ m) (hm' : m ≤ 100) : 0 ≤ (if (if l < m then l else m) > k then (if l < m then l else m) else k) ∧ (if (if l < m then l else m) > k then (if l < m then l else m) else k) ≤ 100 := by
  split <;> split <;> omega
theorem shw_scene {h w : Nat} {bs : List Band} {pic : List Nat} {hs : List Stroke} (k : BOk h w bs) (hl : letters pic) (hn : pic.length = h * w) (ho : HsOk bs hs) : shw (sceneD h w bs pic hs) = true ∧ rsz (sceneD h w bs pic hs) ≤ 20000 ∧ depth (sceneD h w bs pic hs) ≤ 5 := by
  obtain ⟨a1, a2, a3⟩ := shw_bands k.ok k.n36 k.b12
  obtain ⟨b1, b2, b3⟩ := shw_hist k.ok ho.2 (by have := ho.1; omega)
  have hp : rsz (.str pic) = 2 * pic.length + 2 := by unfold rsz; rfl
  have n36 := k.n36
  have h6 := k.h6
  have w6 := k.w6
  have ih : shw (.int h) = true := by unfold shw; rw [decide_eq_true_eq]; omega
  have iw : shw (.int w) = true := by unfold shw; rw [decide_eq_true_eq]; omega
  have rh : ∀ i : Int, rsz (.int i) = 12 := fun i => by unfold rsz; rfl
  have dh : ∀ i : Int, depth (.int i) = 0 := fun i => by unfold depth; rfl
  have dp : depth (.str pic) = 0 := by unfold depth; rfl
  have e1 : shw (.tup [.int h, .int w, .tup (bs.map Band.d)]) = true := by
    unfold shw shws shws shws shws
    rw [ih, iw, a1]; rfl
  have e2 : rsz (.tup [.int h, .int w, .tup (bs.map Band.d)]) ≤ 8100 := by
    unfold rsz rszs rszs rszs rszs
    rw [rh, rh]; omega
  have e3 : depth (.tup [.int h, .int w, .tup (bs.map Band.d)]) ≤ 4 := by
    unfold depth depths depths depths depths
    rw [dh, dh]; omega
  refine ⟨?_, ?_, ?_⟩
  · unfold sceneD shw shws shws shws shws
    rw [e1, shw_letters hl, b1]; rfl
  · unfold sceneD rsz rszs rszs rszs rszs
    omega
  · unfold sceneD depth depths depths depths depths
    omega
end
end G
namespace G
open PySem L2
def c_mark_0 : Ss := (.cons (.ret (.call "last_colours" (.cons (.loc 0) (.cons (.loc 1) .nil)) [])) .nil)
def c_mark_1 : Ss := (.cons (.expr (.call "check_history" (.cons (.loc 0) (.cons (.loc 1) .nil)) [])) c_mark_0)
def b_mark : Ss := (.cons (.expr (.call "check_board" (.cons (.loc 0) .nil) [])) c_mark_1)
def n_mark : Nat := 2
def c_lasts_0 : Ss := (.cons (.ret (.call "last_numbers" (.cons (.loc 0) (.cons (.loc 1) .nil)) [])) .nil)
def c_lasts_1 : Ss := (.cons (.expr (.call "check_history" (.cons (.loc 0) (.cons (.loc 1) .nil)) [])) c_lasts_0)
def b_lasts : Ss := (.cons (.expr (.call "check_board" (.cons (.loc 0) .nil) [])) c_lasts_1)
def n_lasts : Nat := 2
def b_seen : Ss := (.cons (.ret (.bi true .tuple (.cons (.ssc true (.loc 2) (.name 2) (.seq (.call "lasts" (.cons (.loc 0) (.cons (.loc 1) .nil)) [])) (.yes (.cmp .IsNot (.loc 2) (.const .non)))) .nil))) .nil)
def n_seen : Nat := 3
def b_alike : Ss := (.cons (.ret (.cmp .Eq (.call "mark" (.cons (.loc 0) (.cons (.loc 1) .nil)) []) (.call "mark" (.cons (.loc 0) (.cons (.loc 2) .nil)) []))) .nil)
def n_alike : Nat := 3
def b_cleared : Ss := (.cons (.ret (.bi true .tuple (.cons (.lc true (.sub (.loc 1) (.loc 2)) (.name 2) (.seq (.call "seen" (.cons (.loc 0) (.cons (.loc 1) .nil)) [])) .no) .nil))) .nil)
def n_cleared : Nat := 3
end G
namespace G
open PySem L2
local macro_rules | `(tactic| simp_arith [$xs,*]) => `(tactic| simp only [wFn, wSs, wS, x_loc, x_const, x_glob, x_bin, x_neg, x_cmp, x_cmp2, x_bool, x_not, x_ite, x_bi, x_meth, x_attr, x_sub, x_sl, x_tup, x_lst, x_lc, x_sset, x_repl, x_dct, x_dc, x_rngT, x_rev, x_ssc, rv_tup, rv_lst, x_isiS, x_isiI, x_isiB, x_isiT, x_isiL, x_isiD, mkV, wB, wEs, wO, wTo, wI, wPs, wL, wLs, wG, wGs, lhsLen, esLen, pick, tgSlots, tgsSlots, wipeD, List.map_cons, List.map_nil, List.append_nil, List.nil_append, List.cons_append, List.length_cons, List.length_nil, Nat.reduceAdd, Nat.reduceSub, List.replicate, List.set_cons_zero, List.set_cons_succ, List.set_nil, List.getElem?_cons_zero, List.getElem?_cons_succ, Option.some.injEq, exists_eq_left', exists_eq_left, exists_eq_right, true_and, and_true, if_true, if_false, Bool.false_eq_true, reduceIte, List.getD_cons_zero, List.getD_cons_succ, tru_bl, tru_int, tru_non, D.bl.injEq, D.int.injEq, o_addI, o_subI, o_mulI, o_divI, o_modI, o_powI, o_addS, o_addL, o_addT, c_ltI, c_leI, c_gtI, c_geI, c_ltS, c_eqI, c_neI, c_eqS, c_neS, b_lenS, b_lenT, b_lenL, b_lenK, b_absI, b_maxI, b_minI, b_intI, b_intB, b_tupS, b_tupL, b_lstS, b_dvm, i_str, i_lst, i_tup, i_lsk, l_str, l_tup, l_lst, l_lsk, n_frz, n_obj, r_one, r_two, ak_non, ak_bl, ak_int, ak_str, ak_tup, ak_lst, ak_dct, kS_non, kS_bl, kS_int, kS_str, kS_tup, kS_lst, kS_dct, kS_ins, kS_obj, kI_non, kI_bl, kI_int, kI_str, kI_tup, kI_lst, kI_dct, kI_ins, kI_obj, kB_non, kB_bl, kB_int, kB_str, kB_tup, kB_lst, kB_dct, kB_ins, kB_obj, kT_non, kT_bl, kT_int, kT_str, kT_tup, kT_lst, kT_dct, kT_ins, kT_obj, kL_non, kD_non, kL_bl, kD_bl, kL_int, kD_int, kL_str, kD_str, kL_tup, kD_tup, kL_lst, kD_lst, kL_dct, kD_dct, kL_ins, kD_ins, c_inS, c_niS, c_inT, c_niT, c_inL, c_niL, c_is, c_isn, c_isB, i_dct, nn_non, nn_int, nn_str, nn_tup, nn_lst, b_tupT, b_rpr, decide_true, decide_false, Bool.not_true, Bool.not_false, Bool.and_true, Bool.true_and, Bool.and_false, Bool.false_and, $xs,*])
section
variable {T : Tab}
def φ_mark : FSp := fun ds S Q E => match ds with
  | [x, y] => ∃ h w bs hs, x = brd h w bs ∧ BOk h w bs ∧ y = histD hs ∧ HsOk bs hs ∧ Q (.tup ((lastCs bs (h * w) hs).map optC)) S
  | _ => False
theorem ok_mark (f0 : T.Fn "check_board" φ_check_board) (f1 : T.Fn "check_history" φ_check_history) (f2 : T.Fn "last_colours" φ_last_colours) : Ok T n_mark b_mark φ_mark := by
  intro ds S Q E hφ
  match ds, hφ with
  | [x, y], hh =>
    obtain ⟨h, w, bs, hs, rfl, k, rfl, ho, q⟩ := hh
    simp_arith [b_mark, n_mark, x_call f0, φ_check_board]
    refine ⟨h, w, bs, rfl, k, ?_⟩
    simp_arith [c_mark_1, x_call f1, φ_check_history]
    refine ⟨h, w, bs, hs, rfl, k, rfl, ho, ?_⟩
    simp_arith [c_mark_0, x_call f2, φ_last_colours]
    exact ⟨h, w, bs, hs, rfl, k, rfl, ho, S, Sub.refl S, q⟩
def φ_lasts : FSp := fun ds S Q E => match ds with
  | [x, y] => ∃ h w bs hs, x = brd h w bs ∧ BOk h w bs ∧ y = histD hs ∧ HsOk bs hs ∧ Q (.tup ((lastNs bs (h * w) hs).map optD)) S
  | _ => False
theorem ok_lasts (f0 : T.Fn "check_board" φ_check_board) (f1 : T.Fn "check_history" φ_check_history) (f2 : T.Fn "last_numbers" φ_last_numbers) : Ok T n_lasts b_lasts φ_lasts := by
  intro ds S Q E hφ
  match ds, hφ with
  | [x, y], hh =>
    obtain ⟨h, w, bs, hs, rfl, k, rfl, ho, q⟩ := hh
    simp_arith [b_lasts, n_lasts, x_call f0, φ_check_board]
    refine ⟨h, w, bs, rfl, k, ?_⟩
    simp_arith [c_lasts_1, x_call f1, φ_check_history]
    refine ⟨h, w, bs, hs, rfl, k, rfl, ho, ?_⟩
    simp_arith [c_lasts_0, x_call f2, φ_last_numbers]
    exact ⟨h, w, bs, hs, rfl, k, rfl, ho, S, Sub.refl S, q⟩
/-- the numbers that some cell shows, in their turn -/
def someNs (os : List (Option Nat)) : List Int := os.filterMap fun o => o.map fun (j : Nat) => (j : Int)
def seenNs (bs : List Band) (n : Nat) (hs : List Stroke) : List Int := sortI (someNs (lastNs bs n hs))
def φ_seen : FSp := fun ds S Q E => match ds with
  | [x, y] => ∃ h w bs hs, x = brd h w bs ∧ BOk h w bs ∧ y = histD hs ∧ HsOk bs hs ∧ Q (.tup ((seenNs bs (h * w) hs).map .int)) S
  | _ => False
theorem someNs_le (os : List (Option Nat)) : (someNs os).length ≤ os.length := List.length_filterMap_le _ _
def keepI (d : D) : Bool := match d with | .int _ => true | _ => false
theorem some_keep : ∀ os : List (Option Nat), ((os.map optD).filter keepI).map (fun d => d) = (someNs os).map .int
  | [] => rfl
  | none :: os => by
    have := some_keep os
    simp only [List.map_cons, optD, keepI, List.filter_cons, someNs, List.filterMap_cons, Option.map_none] at this ⊢
    simpa using this
  | some j :: os => by
    have := some_keep os
    simp only [List.map_cons, optD, keepI, List.filter_cons, someNs, List.filterMap_cons, Option.map_some] at this ⊢
    simpa using this
theorem ok_seen (f0 : T.Fn "lasts" φ_lasts) : Ok T n_seen b_seen φ_seen := by
  intro ds S Q E hφ
  match ds, hφ with
  | [x, y], hh =>
    obtain ⟨h, w, bs, hs, rfl, k, rfl, ho, q⟩ := hh
    simp_arith [b_seen, n_seen, x_call f0, φ_lasts]
    have hln := lastNs_len bs (h * w) hs
    have h36 := k.n36
    refine ⟨h, w, bs, hs, rfl, k, rfl, ho, _, rfl, by rw [List.length_map, hln]; omega, ?_⟩
    refine wLc_pure (fun d => d) keepI trivial (fun d hd k1 k0 hk1 hk0 => ?_) ?_ ?_
    · obtain ⟨o, hm, rfl⟩ := List.mem_map.mp hd
      cases o with
      | none => simp_arith [optD]; exact hk0 rfl
      | some i => simp_arith [optD]; exact ⟨⟨_, rfl⟩, hk1 rfl⟩
    · rw [List.length_map, hln]; unfold lim; simp only [List.length_nil]; omega
    · rw [List.nil_append, some_keep]
      refine ⟨_, rfl, ?_, ?_⟩
      · have := someNs_le (lastNs bs (h * w) hs); omega
      · simp_arith [wFn]
        exact ⟨S, Sub.refl S, q⟩
def φ_alike : FSp := fun ds S Q E => match ds with
  | [x, y, z] => ∃ h w bs hs ks, x = brd h w bs ∧ BOk h w bs ∧ y = histD hs ∧ HsOk bs hs ∧ z = histD ks ∧ HsOk bs ks ∧ Q (.bl (decide (lastCs bs (h * w) hs = lastCs bs (h * w) ks))) S
  | _ => False
theorem optC_beq : ∀ (a b : List (Option Nat)), beqs (a.map optC) (b.map optC) = decide (a = b)
  | [], [] => rfl
  | [], b :: bs => by cases b <;> rfl
  | a :: as, [] => by cases a <;> rfl
  | a :: as, b :: bs => by
    have ih := optC_beq as bs
    show (beq (optC a) (optC b) && beqs (as.map optC) (bs.map optC)) = _
    rw [ih]
    cases a <;> cases b <;> simp [optC, beq]
    rename_i u v
    cases h : (u == v) <;> simp_all
theorem plains_optC : ∀ a : List (Option Nat), plains (a.map optC) = true
  | [] => rfl
  | none :: a => plains_optC a
  | some _ :: a => plains_optC a
theorem depths_optC : ∀ a : List (Option Nat), depths (a.map optC) = 0
  | [] => rfl
  | none :: a => by show max 0 (depths (a.map optC)) = 0; rw [depths_optC a]; rfl
  | some _ :: a => by show max 0 (depths (a.map optC)) = 0; rw [depths_optC a]; rfl
theorem ok_alike (f0 : T.Fn "mark" φ_mark) : Ok T n_alike b_alike φ_alike := by
  intro ds S Q E hφ
  match ds, hφ with
  | [x, y, z], hh =>
    obtain ⟨h, w, bs, hs, ks, rfl, k, rfl, ho, rfl, hk, q⟩ := hh
    simp_arith [b_alike, n_alike, x_call f0, φ_mark]
    refine ⟨h, w, bs, hs, rfl, k, rfl, ho, h, w, bs, ks, rfl, k, rfl, hk, ?_⟩
    rw [c_eq]
    refine ⟨⟨?_, ?_, ?_, ?_⟩, ?_⟩
    · exact plains_optC _
    · exact plains_optC _
    · show depths _ + 1 ≤ 64; rw [depths_optC]; decide
    · show depths _ + 1 ≤ 64; rw [depths_optC]; decide
    · have e : beq (.tup ((lastCs bs (h * w) hs).map optC)) (.tup ((lastCs bs (h * w) ks).map optC)) = decide (lastCs bs (h * w) hs = lastCs bs (h * w) ks) := optC_beq _ _
      rw [e]
      exact ⟨S, Sub.refl S, q⟩
def φ_cleared : FSp := fun ds S Q E => match ds with
  | [x, y] => ∃ h w bs hs, x = brd h w bs ∧ BOk h w bs ∧ y = histD hs ∧ HsOk bs hs ∧ Q (histD ((seenNs bs (h * w) hs).filterMap fun i => hs[i.toNat]?)) S
  | _ => False
theorem seenNs_mem {bs : List Band} {n : Nat} {hs : List Stroke} {i : Int} : i ∈ seenNs bs n hs ↔ ∃ j : Nat, i = j ∧ some j ∈ lastNs bs n hs := by
  unfold seenNs someNs
  rw [mem_sortI, List.mem_filterMap]
  constructor
  · rintro ⟨o, ho, e⟩
    cases o with
    | none => cases e
    | some j => cases e; exact ⟨j, rfl, ho⟩
  · rintro ⟨j, rfl, hj⟩
    exact ⟨some j, hj, rfl⟩
theorem sortI_len : ∀ l : List Int, (sortI l).length ≤ l.length
  | [] => by simp [sortI]
  | y :: r => by
    have h1 := sortI_len r
    have h2 : ∀ l : List Int, (insI y l).length ≤ l.length + 1 := by
      intro l
      induction l with
      | nil => simp [insI]
      | cons a l ih =>
        unfold insI
        split
        · simp
        · split
          · simp only [List.length_cons]; omega
          · simp
    have h3 := h2 (sortI r)
    show (insI y (sortI r)).length ≤ _
    rw [List.length_cons]
    omega
theorem seenNs_len {bs : List Band} {n : Nat} {hs : List Stroke} : (seenNs bs n hs).length ≤ n := by
  have h1 := sortI_len (someNs (lastNs bs n hs))
  have h2 := someNs_le (lastNs bs n hs)
  rw [lastNs_len] at h2
  unfold seenNs
  omega
theorem pick_map {α β : Type} (f : α → β) (hs : List α) : ∀ (l : List Int), (∀ i ∈ l, ∃ j : Nat, i = j ∧ j < hs.length) → (d0 : β) → (l.map fun i => ((hs.map f)[i.toNat]?).getD d0) = (l.filterMap fun i => hs[i.toNat]?).map f
  | [], _, _ => rfl
  | i :: l, h, d0 => by
    obtain ⟨j, rfl, hj⟩ := h i (by simp)
    rw [List.map_cons, pick_map f hs l (fun i hi => h i (by simp [hi])) d0, List.filterMap_cons]
    rw [Int.toNat_natCast, List.getElem?_map, List.getElem?_eq_getElem hj]
    rfl
theorem ok_cleared (f0 : T.Fn "seen" φ_seen) : Ok T n_cleared b_cleared φ_cleared := by
  intro ds S Q E hφ
  match ds, hφ with
  | [x, y], hh =>
    obtain ⟨h, w, bs, hs, rfl, k, rfl, ho, q⟩ := hh
    simp_arith [b_cleared, n_cleared, x_call f0, φ_seen]
    have h36 := k.n36
    have hsl := seenNs_len (bs := bs) (n := h * w) (hs := hs)
    have hin : ∀ i ∈ seenNs bs (h * w) hs, ∃ j : Nat, i = j ∧ j < hs.length := fun i hi => by
      obtain ⟨j, e, hj⟩ := seenNs_mem.mp hi
      exact ⟨j, e, lastNs_lt hj⟩
    refine ⟨h, w, bs, hs, rfl, k, rfl, ho, _, rfl, ?_⟩
    refine wLc_pure (fun d => match d with | .int i => ((hs.map strokeD)[i.toNat]?).getD .non | _ => .non) (fun _ => true) trivial (fun d hd k1 k0 hk1 hk0 => ?_) ?_ ?_
    · obtain ⟨i, hm, rfl⟩ := List.mem_map.mp hd
      obtain ⟨j, rfl, hj⟩ := hin i hm
      simp_arith [histD]
      have e1 := hk1 rfl
      have e2 : atI (hs.map strokeD) (j : Int) = some (strokeD hs[j]) := by rw [atI_nat _ _ (by rw [List.length_map]; exact hj), List.getElem_map]
      refine ⟨_, _, rfl, e2, ?_⟩
      have e3 : ((hs.map strokeD)[((j : Nat) : Int).toNat]?).getD .non = strokeD hs[j] := by rw [Int.toNat_natCast, List.getElem?_map, List.getElem?_eq_getElem hj]; rfl
      have e4 : k1 (((hs.map strokeD)[((j : Nat) : Int).toNat]?).getD .non) S := e1
      rw [e3] at e4
      exact e4
    · rw [List.length_map]; unfold lim; simp only [List.length_nil]; omega
    · rw [filter_all, List.nil_append, List.map_map]
      refine ⟨S, Sub.refl S, ?_⟩
      have e : (seenNs bs (h * w) hs).map ((fun d => match d with | .int i => ((hs.map strokeD)[i.toNat]?).getD .non | _ => .non) ∘ D.int) = ((seenNs bs (h * w) hs).filterMap fun i => hs[i.toNat]?).map strokeD := pick_map strokeD hs _ hin .non
      rw [e]
      exact q
end
end G
namespace G
open PySem L2
local macro_rules | `(tactic| simp_arith [$xs,*]) => `(tactic| simp only [wFn, wSs, wS, x_loc, x_const, x_glob, x_bin, x_neg, x_cmp, x_cmp2, x_bool, x_not, x_ite, x_bi, x_meth, x_attr, x_sub, x_sl, x_tup, x_lst, x_lc, x_sset, x_repl, x_dct, x_dc, x_rngT, x_rev, x_ssc, rv_tup, rv_lst, x_isiS, x_isiI, x_isiB, x_isiT, x_isiL, x_isiD, mkV, wB, wEs, wO, wTo, wI, wPs, wL, wLs, wG, wGs, lhsLen, esLen, pick, tgSlots, tgsSlots, wipeD, List.map_cons, List.map_nil, List.append_nil, List.nil_append, List.cons_append, List.length_cons, List.length_nil, Nat.reduceAdd, Nat.reduceSub, List.replicate, List.set_cons_zero, List.set_cons_succ, List.set_nil, List.getElem?_cons_zero, List.getElem?_cons_succ, Option.some.injEq, exists_eq_left', exists_eq_left, exists_eq_right, true_and, and_true, if_true, if_false, Bool.false_eq_true, reduceIte, List.getD_cons_zero, List.getD_cons_succ, tru_bl, tru_int, tru_non, D.bl.injEq, D.int.injEq, o_addI, o_subI, o_mulI, o_divI, o_modI, o_powI, o_addS, o_addL, o_addT, c_ltI, c_leI, c_gtI, c_geI, c_ltS, c_eqI, c_neI, c_eqS, c_neS, b_lenS, b_lenT, b_lenL, b_lenK, b_absI, b_maxI, b_minI, b_intI, b_intB, b_tupS, b_tupL, b_lstS, b_dvm, i_str, i_lst, i_tup, i_lsk, l_str, l_tup, l_lst, l_lsk, n_frz, n_obj, r_one, r_two, ak_non, ak_bl, ak_int, ak_str, ak_tup, ak_lst, ak_dct, kS_non, kS_bl, kS_int, kS_str, kS_tup, kS_lst, kS_dct, kS_ins, kS_obj, kI_non, kI_bl, kI_int, kI_str, kI_tup, kI_lst, kI_dct, kI_ins, kI_obj, kB_non, kB_bl, kB_int, kB_str, kB_tup, kB_lst, kB_dct, kB_ins, kB_obj, kT_non, kT_bl, kT_int, kT_str, kT_tup, kT_lst, kT_dct, kT_ins, kT_obj, kL_non, kD_non, kL_bl, kD_bl, kL_int, kD_int, kL_str, kD_str, kL_tup, kD_tup, kL_lst, kD_lst, kL_dct, kD_dct, kL_ins, kD_ins, c_inS, c_niS, c_inT, c_niT, c_inL, c_niL, c_is, c_isn, c_isB, i_dct, nn_non, nn_int, nn_str, nn_tup, nn_lst, b_tupT, b_rpr, decide_true, decide_false, Bool.not_true, Bool.not_false, Bool.and_true, Bool.true_and, Bool.and_false, Bool.false_and, $xs,*])
/-! P7: strokes of which some cell is seen; what is left of a history when the others are left out. -/
theorem lastIdx_none (bs : List Band) (c : Nat) : ∀ (r : List Stroke) (i : Nat), lastIdx bs r i c = none ↔ ∀ p ∈ r, c ∉ cellsFor bs p.1
  | [], i => by simp [lastIdx]
  | p :: r, i => by
    have ih := lastIdx_none bs c r (i + 1)
    have e : lastIdx bs (p :: r) i c = match lastIdx bs r (i + 1) c with | some x => some x | none => if c ∈ cellsFor bs p.1 then some i else none := rfl
    rw [e]
    cases h : lastIdx bs r (i + 1) c with
    | some x =>
      constructor
      · intro z; cases z
      · intro z
        have := ih.mpr fun q hq => z q (List.mem_cons_of_mem _ hq)
        rw [h] at this
        cases this
    | none =>
      have hr := ih.mp h
      by_cases hc : c ∈ cellsFor bs p.1
      · constructor
        · intro z; simp [hc] at z
        · intro z; exact absurd hc (z p (by simp))
      · simp only [hc, if_false, true_iff]
        intro q hq
        rcases List.mem_cons.mp hq with rfl | hq
        · exact hc
        · exact hr q hq
theorem lastCol_none (bs : List Band) (c : Nat) : ∀ (r : List Stroke), lastCol bs r c = none ↔ ∀ p ∈ r, c ∉ cellsFor bs p.1
  | [] => by simp [lastCol]
  | p :: r => by
    have ih := lastCol_none bs c r
    have e : lastCol bs (p :: r) c = match lastCol bs r c with | some x => some x | none => if c ∈ cellsFor bs p.1 then some p.2 else none := rfl
    rw [e]
    cases h : lastCol bs r c with
    | some x =>
      constructor
      · intro z; cases z
      · intro z
        have := ih.mpr fun q hq => z q (List.mem_cons_of_mem _ hq)
        rw [h] at this
        cases this
    | none =>
      have hr := ih.mp h
      by_cases hc : c ∈ cellsFor bs p.1
      · constructor
        · intro z; simp [hc] at z
        · intro z; exact absurd hc (z p (by simp))
      · simp only [hc, if_false, true_iff]
        intro q hq
        rcases List.mem_cons.mp hq with rfl | hq
        · exact hc
        · exact hr q hq
theorem lastIdx_up (bs : List Band) (c : Nat) : ∀ (r : List Stroke) (i : Nat), lastIdx bs r (i + 1) c = (lastIdx bs r i c).map (· + 1)
  | [], i => rfl
  | p :: r, i => by
    have ih := lastIdx_up bs c r (i + 1)
    have e : ∀ i, lastIdx bs (p :: r) i c = match lastIdx bs r (i + 1) c with | some x => some x | none => if c ∈ cellsFor bs p.1 then some i else none := fun i => rfl
    rw [e, e, ih]
    cases lastIdx bs r (i + 1) c with
    | some x => rfl
    | none => by_cases h : c ∈ cellsFor bs p.1 <;> simp [h]
/-- some cell of the stroke isn't painted behind -/
def vis (bs : List Band) (p : Stroke) (r : List Stroke) : Bool := (cellsFor bs p.1).any fun c => r.all fun q => !decide (c ∈ cellsFor bs q.1)
theorem vis_iff {bs : List Band} {p : Stroke} {r : List Stroke} : vis bs p r = true ↔ ∃ c ∈ cellsFor bs p.1, ∀ q ∈ r, c ∉ cellsFor bs q.1 := by
  unfold vis
  rw [List.any_eq_true]
  constructor
  · rintro ⟨c, hc, h⟩
    exact ⟨c, hc, fun q hq => by have := List.all_eq_true.mp h q hq; simpa using this⟩
  · rintro ⟨c, hc, h⟩
    exact ⟨c, hc, List.all_eq_true.mpr fun q hq => by simpa using h q hq⟩
/-- the seen strokes, in their turn -/
def seenS (bs : List Band) : List Stroke → List Stroke
  | [] => []
  | p :: r => if vis bs p r = true then p :: seenS bs r else seenS bs r
theorem mem_lastNs {bs : List Band} {n : Nat} {hs : List Stroke} {j : Nat} : some j ∈ lastNs bs n hs ↔ ∃ c, c < n ∧ lastIdx bs hs 0 c = some j := by
  rw [List.mem_iff_getElem?]
  constructor
  · rintro ⟨c, hc⟩
    by_cases h : c < n
    · rw [lastNs_get h] at hc
      exact ⟨c, h, Option.some.inj hc⟩
    · rw [List.getElem?_eq_none (by rw [lastNs_len]; omega)] at hc
      cases hc
  · rintro ⟨c, h, e⟩
    exact ⟨c, by rw [lastNs_get h, e]⟩
theorem seenNs_cons {bs : List Band} {n : Nat} (hb : ∀ b ∈ bs, b.Ok n) (p : Stroke) (r : List Stroke) : seenNs bs n (p :: r) = (if vis bs p r = true then [0] else []) ++ (seenNs bs n r).map (· + 1) := by
  refine upI_eq (sortI_up _) ?_ fun x => ?_
  · have h1 : ((seenNs bs n r).map (· + 1)).Pairwise (· < ·) := by
      rw [List.pairwise_map]
      exact (sortI_up _).imp fun h => by omega
    split
    · rw [List.singleton_append, List.pairwise_cons]
      refine ⟨fun z hz => ?_, h1⟩
      obtain ⟨y, hy, rfl⟩ := List.mem_map.mp hz
      obtain ⟨j, rfl, _⟩ := seenNs_mem.mp hy
      omega
    · exact h1
  · have e : ∀ c, lastIdx bs (p :: r) 0 c = match (lastIdx bs r 0 c).map (· + 1) with | some x => some x | none => if c ∈ cellsFor bs p.1 then some 0 else none := fun c => by
      rw [← lastIdx_up]
      rfl
    show x ∈ seenNs bs n (p :: r) ↔ _
    rw [seenNs_mem, List.mem_append, List.mem_map]
    constructor
    · rintro ⟨j, rfl, hj⟩
      obtain ⟨c, hc, hi⟩ := mem_lastNs.mp hj
      rw [e] at hi
      cases hl : lastIdx bs r 0 c with
      | some y =>
        rw [hl] at hi
        cases hi
        exact .inr ⟨y, seenNs_mem.mpr ⟨y, rfl, mem_lastNs.mpr ⟨c, hc, hl⟩⟩, by show (y : Int) + 1 = ((y + 1 : Nat) : Int); omega⟩
      | none =>
        rw [hl] at hi
        by_cases hp : c ∈ cellsFor bs p.1
        · simp [hp] at hi
          subst hi
          left
          rw [if_pos (vis_iff.mpr ⟨c, hp, (lastIdx_none bs c r 0).mp hl⟩)]
          simp
        · simp [hp] at hi
    · rintro (h | ⟨y, hy, rfl⟩)
      · split at h
        · rename_i hv
          rw [List.mem_singleton] at h
          subst h
          obtain ⟨c, hc, hr⟩ := vis_iff.mp hv
          refine ⟨0, rfl, mem_lastNs.mpr ⟨c, cellsFor_lt hb c hc, ?_⟩⟩
          rw [e, (lastIdx_none bs c r 0).mpr hr]
          simp [hc]
        · cases h
      · obtain ⟨j, rfl, hj⟩ := seenNs_mem.mp hy
        obtain ⟨c, hc, hi⟩ := mem_lastNs.mp hj
        refine ⟨j + 1, by omega, mem_lastNs.mpr ⟨c, hc, ?_⟩⟩
        rw [e, hi]
        rfl
theorem seen_pick {bs : List Band} {n : Nat} (hb : ∀ b ∈ bs, b.Ok n) : ∀ hs : List Stroke, ((seenNs bs n hs).filterMap fun i => hs[i.toNat]?) = seenS bs hs
  | [] => by
    have : seenNs bs n [] = [] := by
      refine upI_eq (sortI_up _) List.Pairwise.nil fun x => ?_
      show x ∈ seenNs bs n [] ↔ _
      rw [seenNs_mem]
      constructor
      · rintro ⟨j, rfl, hj⟩
        exact absurd (lastNs_lt hj) (by simp)
      · intro h; cases h
    rw [this]
    rfl
  | p :: r => by
    have ih := seen_pick hb r
    rw [seenNs_cons hb, List.filterMap_append]
    have e2 : ((seenNs bs n r).map (· + 1)).filterMap (fun i => (p :: r)[i.toNat]?) = seenS bs r := by
      rw [List.filterMap_map, ← ih]
      have : ∀ l : List Int, (∀ i ∈ l, 0 ≤ i) → l.filterMap ((fun i => (p :: r)[i.toNat]?) ∘ (· + 1)) = l.filterMap fun i => r[i.toNat]? := by
        intro l
        induction l with
        | nil => intro _; rfl
        | cons i l il =>
          intro h
          have hi := h i (by simp)
          rw [List.filterMap_cons, List.filterMap_cons, il fun k hk => h k (by simp [hk])]
          have : ((fun i : Int => (p :: r)[i.toNat]?) ∘ (· + 1)) i = r[i.toNat]? := by
            show (p :: r)[(i + 1).toNat]? = _
            rw [show (i + 1).toNat = i.toNat + 1 by omega, List.getElem?_cons_succ]
          rw [this]
      exact this _ fun i hi => by obtain ⟨j, rfl, _⟩ := seenNs_mem.mp hi; omega
    rw [e2]
    show _ = if vis bs p r = true then p :: seenS bs r else seenS bs r
    split <;> rfl
theorem seenS_cov (bs : List Band) (c : Nat) : ∀ hs : List Stroke, (∀ p ∈ seenS bs hs, c ∉ cellsFor bs p.1) ↔ ∀ p ∈ hs, c ∉ cellsFor bs p.1
  | [] => Iff.rfl
  | p :: r => by
    have ih := seenS_cov bs c r
    show (∀ q ∈ (if vis bs p r = true then p :: seenS bs r else seenS bs r), _) ↔ _
    split
    · rw [List.forall_mem_cons, List.forall_mem_cons, ih]
    · rename_i hv
      rw [List.forall_mem_cons, ih]
      constructor
      · intro h
        refine ⟨fun hc => hv (vis_iff.mpr ⟨c, hc, h⟩), h⟩
      · exact fun h => h.2
theorem vis_seen (bs : List Band) (p : Stroke) (r : List Stroke) : vis bs p (seenS bs r) = vis bs p r := by
  rw [Bool.eq_iff_iff, vis_iff, vis_iff]
  constructor
  · rintro ⟨c, hc, h⟩; exact ⟨c, hc, (seenS_cov bs c r).mp h⟩
  · rintro ⟨c, hc, h⟩; exact ⟨c, hc, (seenS_cov bs c r).mpr h⟩
theorem seenS_twice (bs : List Band) : ∀ hs : List Stroke, seenS bs (seenS bs hs) = seenS bs hs
  | [] => rfl
  | p :: r => by
    have ih := seenS_twice bs r
    show seenS bs (if vis bs p r = true then p :: seenS bs r else seenS bs r) = if vis bs p r = true then p :: seenS bs r else seenS bs r
    by_cases h : vis bs p r = true
    · rw [if_pos h]
      show (if vis bs p (seenS bs r) = true then p :: seenS bs (seenS bs r) else seenS bs (seenS bs r)) = _
      rw [vis_seen, if_pos h, ih]
    · rw [if_neg h, ih]
theorem seenNs_seen {bs : List Band} {n : Nat} (hb : ∀ b ∈ bs, b.Ok n) : ∀ hs : List Stroke, seenNs bs n (seenS bs hs) = (List.range (seenS bs hs).length).map fun (k : Nat) => (k : Int)
  | [] => by
    refine upI_eq (sortI_up _) List.Pairwise.nil fun x => ?_
    show x ∈ seenNs bs n [] ↔ _
    rw [seenNs_mem]
    constructor
    · rintro ⟨j, rfl, hj⟩
      exact absurd (lastNs_lt hj) (by simp)
    · intro h; cases h
  | p :: r => by
    have ih := seenNs_seen hb r
    show seenNs bs n (if vis bs p r = true then p :: seenS bs r else seenS bs r) = (List.range (if vis bs p r = true then p :: seenS bs r else seenS bs r).length).map _
    by_cases h : vis bs p r = true
    · rw [if_pos h, seenNs_cons hb, vis_seen, if_pos h, ih, List.length_cons, List.range_succ_eq_map, List.map_cons, List.map_map, List.map_map]
      rfl
    · rw [if_neg h, ih]
theorem lastCol_seen (bs : List Band) (c : Nat) : ∀ hs : List Stroke, lastCol bs (seenS bs hs) c = lastCol bs hs c
  | [] => rfl
  | p :: r => by
    have ih := lastCol_seen bs c r
    have e : ∀ r, lastCol bs (p :: r) c = match lastCol bs r c with | some x => some x | none => if c ∈ cellsFor bs p.1 then some p.2 else none := fun r => rfl
    show lastCol bs (if vis bs p r = true then p :: seenS bs r else seenS bs r) c = _
    by_cases h : vis bs p r = true
    · rw [if_pos h, e, e, ih]
    · rw [if_neg h, ih, e]
      cases hl : lastCol bs r c with
      | some x => rfl
      | none =>
        have hn := (lastCol_none bs c r).mp hl
        have : c ∉ cellsFor bs p.1 := fun hc => h (vis_iff.mpr ⟨c, hc, hn⟩)
        simp [this]
theorem lastCs_seen (bs : List Band) (n : Nat) (hs : List Stroke) : lastCs bs n (seenS bs hs) = lastCs bs n hs := by
  have hl : ∀ hs, (lastCs bs n hs).length = n := fun hs => by unfold lastCs; rw [List.length_map, lastNs_len]
  apply List.ext_getElem?
  intro i
  by_cases h : i < n
  · rw [lastCs_get h, lastCs_get h, lastCol_seen]
  · rw [List.getElem?_eq_none (by rw [hl]; omega), List.getElem?_eq_none (by rw [hl]; omega)]
theorem paintF_seen (bs : List Band) (pic : List Nat) (hs : List Stroke) : paintF bs pic (seenS bs hs) = paintF bs pic hs := by
  apply List.ext_getElem?
  intro i
  rw [paintF_get, paintF_get, lastCol_seen]
theorem seenS_sub (bs : List Band) : ∀ (hs : List Stroke), (∀ p ∈ seenS bs hs, p ∈ hs) ∧ (seenS bs hs).length ≤ hs.length
  | [] => ⟨fun p h => h, Nat.le_refl _⟩
  | q :: r => by
    obtain ⟨h1, h2⟩ := seenS_sub bs r
    show (∀ p ∈ (if vis bs q r = true then q :: seenS bs r else seenS bs r), p ∈ q :: r) ∧ (if vis bs q r = true then q :: seenS bs r else seenS bs r).length ≤ _
    split
    · refine ⟨fun p hp => ?_, by simp only [List.length_cons]; omega⟩
      rcases List.mem_cons.mp hp with rfl | hp
      · simp
      · exact List.mem_cons_of_mem _ (h1 p hp)
    · exact ⟨fun p hp => List.mem_cons_of_mem _ (h1 p hp), by simp only [List.length_cons]; omega⟩
end G
namespace G
open PySem L2
def c_thin_0 (f0 : Str) : Ss := (.cons (.expr (.meth .extend (.loc 3) (.cons (.loc 6) .nil))) .nil)
def c_thin_1 (f0 : Str) : Ss := (.cons (.ife (.not (.bi true .all (.cons (.lc true (.cmp .In (.loc 7) (.loc 3)) (.name 7) (.seq (.loc 6)) .no) .nil))) (.cons (.expr (.meth .append (.loc 2) (.cons (.tup (.cons (.loc 4) (.cons (.loc 5) .nil))) .nil))) .nil) .nil) (c_thin_0 f0))
def c_thin_2 (f0 : Str) : Ss := (.cons (.ret (.bi true .tuple (.cons (.rev true (.loc 2)) .nil))) .nil)
def c_thin_3 (f0 : Str) : Ss := (.cons (.for (.tup (.cons (.name 4) (.cons (.name 5) .nil))) (.seq (.rev true (.loc 1))) (.cons (.asg (.name 6) (.call f0 (.cons (.loc 0) (.cons (.loc 4) .nil)) [])) (c_thin_1 f0))) (c_thin_2 f0))
def b_thin (f0 : Str) : Ss := (.cons (.asg (.tup (.cons (.name 2) (.cons (.name 3) .nil))) (.tup (.cons (.lst false .nil) (.cons (.lst false .nil) .nil)))) (c_thin_3 f0))
def n_thin : Nat := 8
end G
namespace G
open PySem L2
local macro_rules | `(tactic| simp_arith [$xs,*]) => `(tactic| simp only [wFn, wSs, wS, x_loc, x_const, x_glob, x_bin, x_neg, x_cmp, x_cmp2, x_bool, x_not, x_ite, x_bi, x_meth, x_attr, x_sub, x_sl, x_tup, x_lst, x_lc, x_sset, x_repl, x_dct, x_dc, x_rngT, x_rev, x_ssc, rv_tup, rv_lst, x_isiS, x_isiI, x_isiB, x_isiT, x_isiL, x_isiD, mkV, wB, wEs, wO, wTo, wI, wPs, wL, wLs, wG, wGs, lhsLen, esLen, pick, tgSlots, tgsSlots, wipeD, List.map_cons, List.map_nil, List.append_nil, List.nil_append, List.cons_append, List.length_cons, List.length_nil, Nat.reduceAdd, Nat.reduceSub, List.replicate, List.set_cons_zero, List.set_cons_succ, List.set_nil, List.getElem?_cons_zero, List.getElem?_cons_succ, Option.some.injEq, exists_eq_left', exists_eq_left, exists_eq_right, true_and, and_true, if_true, if_false, Bool.false_eq_true, reduceIte, List.getD_cons_zero, List.getD_cons_succ, tru_bl, tru_int, tru_non, D.bl.injEq, D.int.injEq, o_addI, o_subI, o_mulI, o_divI, o_modI, o_powI, o_addS, o_addL, o_addT, c_ltI, c_leI, c_gtI, c_geI, c_ltS, c_eqI, c_neI, c_eqS, c_neS, b_lenS, b_lenT, b_lenL, b_lenK, b_absI, b_maxI, b_minI, b_intI, b_intB, b_tupS, b_tupL, b_lstS, b_dvm, i_str, i_lst, i_tup, i_lsk, l_str, l_tup, l_lst, l_lsk, n_frz, n_obj, r_one, r_two, ak_non, ak_bl, ak_int, ak_str, ak_tup, ak_lst, ak_dct, kS_non, kS_bl, kS_int, kS_str, kS_tup, kS_lst, kS_dct, kS_ins, kS_obj, kI_non, kI_bl, kI_int, kI_str, kI_tup, kI_lst, kI_dct, kI_ins, kI_obj, kB_non, kB_bl, kB_int, kB_str, kB_tup, kB_lst, kB_dct, kB_ins, kB_obj, kT_non, kT_bl, kT_int, kT_str, kT_tup, kT_lst, kT_dct, kT_ins, kT_obj, kL_non, kD_non, kL_bl, kD_bl, kL_int, kD_int, kL_str, kD_str, kL_tup, kD_tup, kL_lst, kD_lst, kL_dct, kD_dct, kL_ins, kD_ins, c_inS, c_niS, c_inT, c_niT, c_inL, c_niL, c_is, c_isn, c_isB, i_dct, nn_non, nn_int, nn_str, nn_tup, nn_lst, b_tupT, b_rpr, decide_true, decide_false, Bool.not_true, Bool.not_false, Bool.and_true, Bool.true_and, Bool.and_false, Bool.false_and, $xs,*])
section
variable {T : Tab} {f0 : Str}
/-- the strokes of which some cell isn't painted behind, by going back; gone: the cells painted behind -/
def thinR (bs : List Band) : List Stroke → List Nat → List Stroke
  | [], _ => []
  | p :: r, gone => if (cellsFor bs p.1).all (fun c => decide (c ∈ gone)) then thinR bs r (gone ++ cellsFor bs p.1) else p :: thinR bs r (gone ++ cellsFor bs p.1)
/-- as lists grow: what is found, what is gone -/
def thinF (bs : List Band) (p : Stroke) (st : List Stroke × List Nat) : List Stroke × List Nat := (if (cellsFor bs p.1).all (fun c => decide (c ∈ st.2)) then st.1 else st.1 ++ [p], st.2 ++ cellsFor bs p.1)
def thinS (bs : List Band) (hs : List Stroke) : List Stroke × List Nat := hs.foldl (fun st p => thinF bs p st) ([], [])
def thinL (bs : List Band) (hs : List Stroke) : List Stroke := (thinS bs hs.reverse).1.reverse
theorem thinS_snoc (bs : List Band) (hs : List Stroke) (p : Stroke) : thinS bs (hs ++ [p]) = thinF bs p (thinS bs hs) := by
  unfold thinS
  rw [List.foldl_append]
  rfl
theorem thinS_len {bs : List Band} {n : Nat} (hb : ∀ b ∈ bs, b.Ok n) (hs : List Stroke) : (thinS bs hs).1.length ≤ hs.length ∧ (thinS bs hs).2.length ≤ hs.length * n := by
  have key : ∀ (hs : List Stroke) (st : List Stroke × List Nat), (hs.foldl (fun st p => thinF bs p st) st).1.length ≤ st.1.length + hs.length ∧ (hs.foldl (fun st p => thinF bs p st) st).2.length ≤ st.2.length + hs.length * n := by
    intro hs
    induction hs with
    | nil => intro st; simp
    | cons p r ih =>
      intro st
      obtain ⟨i1, i2⟩ := ih (thinF bs p st)
      have hc : (cellsFor bs p.1).length ≤ n := by
        unfold cellsFor
        split
        · rename_i b hf
          exact (hb b (List.mem_of_find?_eq_some hf)).len
        · simp
      have e1 : (thinF bs p st).1.length ≤ st.1.length + 1 := by
        unfold thinF
        dsimp only
        split
        · omega
        · simp
      have e2 : (thinF bs p st).2.length = st.2.length + (cellsFor bs p.1).length := by unfold thinF; simp
      rw [List.foldl_cons, List.length_cons]
      have : (r.length + 1) * n = r.length * n + n := by rw [Nat.succ_mul]
      constructor <;> omega
  have := key hs ([], [])
  unfold thinS
  simpa using this
def φ_thin : FSp := fun ds S Q E => match ds with
  | [x, z] => ∃ (bs : List Band) (hs : List Stroke) (n : Nat), x = .tup (bs.map Band.d) ∧ bs.length ≤ 1000 ∧ (∀ b ∈ bs, b.Ok n) ∧ n ≤ 36 ∧ z = histD hs ∧ hs.length ≤ 200 ∧ (∀ p ∈ hs, StOk bs p) ∧ Q (histD (thinL bs hs)) S
  | _ => False
theorem thin_gone (bs : List Band) (c : Nat) : ∀ (hs : List Stroke), c ∈ (thinS bs hs).2 ↔ ∃ p ∈ hs, c ∈ cellsFor bs p.1 := by
  have key : ∀ (hs : List Stroke) (st : List Stroke × List Nat), c ∈ (hs.foldl (fun st p => thinF bs p st) st).2 ↔ c ∈ st.2 ∨ ∃ p ∈ hs, c ∈ cellsFor bs p.1 := by
    intro hs
    induction hs with
    | nil => intro st; simp
    | cons p r ih =>
      intro st
      rw [List.foldl_cons, ih]
      have : (thinF bs p st).2 = st.2 ++ cellsFor bs p.1 := rfl
      rw [this, List.mem_append]
      simp only [List.mem_cons, exists_eq_or_imp]
      rw [or_assoc]
  intro hs
  have := key hs ([], [])
  simpa [thinS] using this
theorem thinL_eq (bs : List Band) : ∀ hs : List Stroke, thinL bs hs = seenS bs hs
  | [] => rfl
  | p :: r => by
    have ih := thinL_eq bs r
    unfold thinL at ih ⊢
    rw [List.reverse_cons, thinS_snoc]
    have e : ((cellsFor bs p.1).all fun c => decide (c ∈ (thinS bs r.reverse).2)) = !vis bs p r := by
      rw [Bool.eq_iff_iff, Bool.not_eq_true', ← Bool.not_eq_true, vis_iff, List.all_eq_true]
      constructor
      · rintro h ⟨c, hc, hr⟩
        have := h c hc
        rw [decide_eq_true_eq, thin_gone] at this
        obtain ⟨q, hq, hcq⟩ := this
        exact hr q (List.mem_reverse.mp hq) hcq
      · intro h c hc
        rw [decide_eq_true_eq, thin_gone]
        apply Decidable.byContradiction
        intro z
        exact h ⟨c, hc, fun q hq hcq => z ⟨q, List.mem_reverse.mpr hq, hcq⟩⟩
    unfold thinF
    rw [e]
    show (if (!vis bs p r) = true then _ else _ : List Stroke).reverse = if vis bs p r = true then p :: seenS bs r else seenS bs r
    cases vis bs p r with
    | true => simp [ih]
    | false => simp [ih]
theorem cells_any (cs : List Nat) (c : Nat) : ((cellsD cs).any fun z => beq z (.int (c : Nat))) = decide (c ∈ cs) := by
  induction cs with
  | nil => rfl
  | cons x r ih =>
    show (beq (.int x) (.int c) || (cellsD r).any _) = _
    rw [ih]
    have e : beq (.int (x : Nat)) (.int (c : Nat)) = decide (c = x) := by
      show ((x : Int) == (c : Int)) = _
      by_cases h : c = x
      · subst h; simp
      · have : ¬ (x : Int) = c := by omega
        simp [h, this]
    rw [e]
    by_cases h : c = x <;> simp [h]
theorem cells_flat (cs : List Nat) : (cellsD cs).all flat = true := by
  induction cs with
  | nil => rfl
  | cons x r ih => exact ih
def inC (gone : List Nat) (d : D) : Bool := match d with | .int i => decide (i.toNat ∈ gone) | _ => false
theorem all_inC (gone cs : List Nat) : ((cellsD cs).map fun d => inC gone d).all id = cs.all fun c => decide (c ∈ gone) := by
  induction cs with
  | nil => rfl
  | cons c r ih =>
    show (decide (((c : Nat) : Int).toNat ∈ gone) && ((cellsD r).map fun d => inC gone d).all id) = _
    rw [ih, Int.toNat_natCast]
    rfl
theorem ok_thin (h0 : T.Fn f0 φ_spots_of) : Ok T n_thin (b_thin f0) φ_thin := by
  intro ds S Q E hφ
  match ds, hφ with
  | [x, z], hh =>
    obtain ⟨bs, hs, n, rfl, hbl, hbo, hn, rfl, hl, ho, q⟩ := hh
    simp_arith [b_thin, n_thin]
    refine ⟨by decide, fun a ha => ⟨by decide, fun b hb => ⟨by decide, _, rfl, rfl, ?_⟩⟩⟩
    simp_arith [c_thin_3, histD]
    refine ⟨_, rfl, ?_⟩
    rw [← List.map_reverse]
    have hab : b ≠ a := fun e => by rw [e, Sto.set_same] at hb; cases hb
    refine wFor_inv (fun i ρ S' => S' = (S.set a (.lst ((thinS bs (hs.reverse.take i)).1.map strokeD))).set b (.lst (cellsD (thinS bs (hs.reverse.take i)).2)) ∧ ∃ x4 x5 x6 x7, ρ = [some (.tup (bs.map Band.d)), some (.tup (hs.map strokeD)), some (.obj a), some (.obj b), x4, x5, x6, x7]) 0 ⟨rfl, _, _, _, _, rfl⟩ ?_ ?_
    · rintro j d ρ S' hj ⟨rfl, x4, x5, x6, x7, rfl⟩
      rw [List.getElem?_map] at hj
      cases hp : hs.reverse[j]? with
      | none => rw [hp] at hj; cases hj
      | some p =>
        rw [hp] at hj
        cases hj
        have hst := ho p (List.mem_reverse.mp (List.mem_of_getElem? hp))
        obtain ⟨b', hb', en, hf⟩ := cells_some hst
        refine ⟨trivial, fun nx hnx => ?_⟩
        simp_arith [strokeD, x_call h0, φ_spots_of]
        refine ⟨bs, rfl, hbl, ⟨b', hb', en⟩, ?_⟩
        simp_arith [c_thin_1]
        rw [Nat.zero_add]
        have hct : hs.reverse.take j ++ [p] = hs.reverse.take (j + 1) := by rw [List.take_add_one, hp]; rfl
        have hsn := thinS_snoc bs (hs.reverse.take j) p
        rw [hct] at hsn
        obtain ⟨l1, l2⟩ := thinS_len hbo (hs.reverse.take j)
        have lt : (hs.reverse.take j).length ≤ 200 := by rw [List.length_take, List.length_reverse]; omega
        have l2' : (thinS bs (hs.reverse.take j)).2.length ≤ 200 * 36 := Nat.le_trans l2 (Nat.mul_le_mul lt hn)
        have lc : (cellsFor bs p.1).length ≤ 36 := by
          unfold cellsFor
          rw [hf]
          exact Nat.le_trans (hbo b' hb').len hn
        generalize thinS bs (hs.reverse.take j) = st at l1 l2 l2' hsn
        have hSb : ((S.set a (.lst (st.1.map strokeD))).set b (.lst (cellsD st.2))) b = some (.lst (cellsD st.2)) := Sto.set_same
        have hSa : ((S.set a (.lst (st.1.map strokeD))).set b (.lst (cellsD st.2))) a = some (.lst (st.1.map strokeD)) := by rw [Sto.set_ne hab.symm, Sto.set_same]
        refine ⟨_, rfl, ?_⟩
        refine wLc_pure (fun d => .bl (inC st.2 d)) (fun _ => true) trivial (fun d hd k1 k0 hk1 hk0 => ?_) ?_ ?_
        · obtain ⟨c, hm, rfl⟩ := List.mem_map.mp hd
          have e1 := hk1 rfl
          simp_arith [wFn]
          have e2 : ∀ {S : Sto} {k : QV}, S b = some (.lst (cellsD st.2)) → k (.bl (decide (c ∈ st.2))) S → cmpS .In (.int (c : Nat)) (.obj b) S k := by
            intro S k hS hk
            show inS S (.int (c : Nat)) (.obj b) fun v => k (.bl v) S
            unfold inS
            dsimp only
            rw [hS]
            exact ⟨rfl, cells_flat _, by rw [cells_any]; exact hk⟩
          refine e2 hSb ?_
          have e3 : inC st.2 (.int ((c : Nat) : Int)) = decide (c ∈ st.2) := by show decide (((c : Nat) : Int).toNat ∈ st.2) = _; rw [Int.toNat_natCast]
          rw [← e3]
          exact e1
        · unfold cellsD; rw [List.length_map]; unfold lim; simp only [List.length_nil]; omega
        rw [List.nil_append, filter_all]
        refine ⟨(cellsD (cellsFor bs p.1)).map fun d => inC st.2 d, by rw [List.map_map]; rfl, ?_⟩
        rw [all_inC]
        refine ⟨_, rfl, ?_⟩
        have fin : ∀ (fs : List Stroke), (if (cellsFor bs p.1).all (fun c => decide (c ∈ st.2)) then st.1 else st.1 ++ [p]) = fs → wSs T E (c_thin_0 f0) [some (.tup (bs.map Band.d)), some (.tup (hs.map strokeD)), some (.obj a), some (.obj b), some (.str p.1), some (.str [p.2]), some (.tup (cellsD (cellsFor bs p.1))), x7] ((S.set a (.lst (fs.map strokeD))).set b (.lst (cellsD st.2)))
            { nx := nx, rt := fun d S1 => ∃ S2, Sub S2 S1 ∧ Q d S2, bk := fun ρ1 S1 => wSs T E (c_thin_2 f0) ρ1 S1 { nx := fun x S1 => ∃ S2, Sub S2 S1 ∧ Q D.non S2, rt := fun d S1 => ∃ S2, Sub S2 S1 ∧ Q d S2, bk := fun x x_1 => False, ct := fun x x_1 => False }, ct := nx } := by
          intro fs hfs
          simp_arith [c_thin_0]
          refine ⟨⟨_, Sto.set_same⟩, cellsD st.2, cellsD (cellsFor bs p.1), Sto.set_same, rfl, by unfold cellsD; rw [List.length_map, List.length_map]; unfold lim; omega, ?_⟩
          refine hnx _ _ ⟨?_, _, _, _, _, rfl⟩
          rw [Nat.zero_add, hsn, Sto.set_set]
          unfold thinF
          rw [hfs]
          unfold cellsD
          rw [List.map_append]
        cases hv : (cellsFor bs p.1).all fun c => decide (c ∈ st.2) with
        | true =>
          rw [if_neg (by decide)]
          exact fin st.1 (by rw [hv]; rfl)
        | false =>
          rw [if_pos (by decide)]
          refine ⟨⟨_, hSa⟩, by decide, _, hSa, by rw [List.length_map]; unfold lim; omega, ?_⟩
          have e := fin (st.1 ++ [p]) (by rw [hv]; rfl)
          have e2 : ((S.set a (.lst (st.1.map strokeD))).set b (.lst (cellsD st.2))).set a (.lst (st.1.map strokeD ++ [.tup [.str p.1, .str [p.2]]])) = (S.set a (.lst ((st.1 ++ [p]).map strokeD))).set b (.lst (cellsD st.2)) := by
            rw [Sto.set_comm hab, Sto.set_set, List.map_append]
            rfl
          rw [e2]
          exact e
    · rintro ρ S' ⟨rfl, x4, x5, x6, x7, rfl⟩
      rw [List.length_map, Nat.zero_add, List.take_length]
      refine ⟨trivial, ?_⟩
      simp_arith [c_thin_2]
      refine ⟨_, seq_obj (by rw [Sto.set_ne hab.symm, Sto.set_same]), ?_⟩
      simp_arith [wFn]
      rw [← List.map_reverse]
      refine ⟨S, fun c o hc => ?_, q⟩
      rw [Sto.set_ne (fun e => by rw [e] at hc; rw [Sto.set_ne hab] at hb; rw [hb] at hc; cases hc), Sto.set_ne (fun e => by rw [e] at hc; rw [ha] at hc; cases hc)]
      exact hc
end
end G
namespace G
open PySem L2
def c_k12_right_0 (f0 f1 f2 : Str) : Ss := (.cons (.ret (.bool .And (.cons (.cmp .Eq (.bi true .repr (.cons (.lst true (.cons (.loc 7) (.cons (.loc 8) (.cons (.loc 9) .nil)))) .nil)) (.loc 11)) (.cons (.cmp .Eq (.call "painted" (.cons (.loc 10) (.cons (.loc 8) (.cons (.loc 9) .nil))) []) (.loc 1)) .nil)))) .nil)
def c_k12_right_1 (f0 f1 f2 : Str) : Ss := (.cons (.ife (.cmp .NotEq (.lst true (.cons (.loc 3) (.cons (.loc 6) (.cons (.call "painted" (.cons (.loc 10) (.cons (.loc 1) (.cons (.loc 9) .nil))) []) (.cons (.call "painted" (.cons (.loc 10) (.cons (.loc 8) (.cons (.tup .nil) .nil))) []) .nil))))) (.lst true (.cons (.loc 1) (.cons (.loc 1) (.cons (.loc 1) (.cons (.loc 8) .nil)))))) (.cons (.ret (.const (.bl false))) .nil) .nil) (c_k12_right_0 f0 f1 f2))
def c_k12_right_2 (f0 f1 f2 : Str) : Ss := (.cons (.asg (.name 6) (.call "painted" (.cons (.loc 10) (.cons (.call "painted" (.cons (.loc 10) (.cons (.loc 8) (.cons (.sl (.loc 9) .no (.yes (.loc 5))) .nil))) []) (.cons (.sl (.loc 9) (.yes (.loc 5)) .no) .nil))) [])) (c_k12_right_1 f0 f1 f2))
def c_k12_right_3 (f0 f1 f2 : Str) : Ss := (.cons (.asg (.name 5) (.call f2 (.cons (.loc 0) (.cons (.bin .Add (.bi true .len (.cons (.loc 9) .nil)) (.const (.int 1))) .nil)) [])) (c_k12_right_2 f0 f1 f2))
def c_k12_right_4 (f0 f1 f2 : Str) : Ss := (.cons (.for (.name 4) (.seq (.loc 9)) (.cons (.asg (.name 3) (.call "painted" (.cons (.loc 10) (.cons (.loc 3) (.cons (.tup (.cons (.loc 4) .nil)) .nil))) [])) .nil)) (c_k12_right_3 f0 f1 f2))
def c_k12_right_5 (f0 f1 f2 : Str) : Ss := (.cons (.asg (.name 3) (.loc 8)) (c_k12_right_4 f0 f1 f2))
def c_k12_right_6 (f0 f1 f2 : Str) : Ss := (.cons (.ife (.bool .Or (.cons (.not (.isi (.loc 2) (.b "str"))) (.cons (.cmp .NotEq (.loc 2) (.loc 1)) (.cons (.cmp .NotEq (.callk "painted" .nil ["history", "board", "picture"] (.cons (.loc 9) (.cons (.loc 10) (.cons (.loc 8) .nil))) [.inl 1, .inl 2, .inl 0]) (.loc 1)) .nil)))) (.cons (.ret (.const (.bl false))) .nil) .nil) (c_k12_right_5 f0 f1 f2))
def c_k12_right_7 (f0 f1 f2 : Str) : Ss := (.cons (.asg (.name 2) (.call "painted" (.cons (.loc 10) (.cons (.loc 8) (.cons (.loc 9) .nil))) [])) (c_k12_right_6 f0 f1 f2))
def c_k12_right_8 (f0 f1 f2 : Str) : Ss := (.cons (.asg (.name 1) (.call f1 (.cons (.sub (.loc 7) (.const (.int 2))) (.cons (.loc 8) (.cons (.loc 9) .nil))) [])) (c_k12_right_7 f0 f1 f2))
def c_k12_right_9 (f0 f1 f2 : Str) : Ss := (.cons (.par 10 11 (.make true "Board" (.cons (.sub (.loc 7) (.const (.int 0))) (.cons (.sub (.loc 7) (.const (.int 1))) (.cons (.sub (.loc 7) (.const (.int 2))) .nil))) []) (.bi true .repr (.cons (.lst true (.cons (.loc 7) (.cons (.loc 8) (.cons (.loc 9) .nil)))) .nil))) (c_k12_right_8 f0 f1 f2))
def b_k12_right (f0 f1 f2 : Str) : Ss := (.cons (.asg (.tup (.cons (.name 7) (.cons (.name 8) (.cons (.name 9) .nil)))) (.call f0 (.cons (.loc 0) .nil) [])) (c_k12_right_9 f0 f1 f2))
def n_k12_right : Nat := 12
def b_k12_law (f0 f1 f2 : Str) : Ss := (.cons (.ret (.bi true .all (.cons (.lc true (.call f0 (.cons (.call f1 (.cons (.call f2 (.cons (.loc 0) (.cons (.loc 1) .nil)) []) .nil) []) .nil) []) (.name 1) (.range (.cons (.bi true .max2 (.cons (.const (.int 2)) (.cons (.bi true .min2 (.cons (.const (.int 12)) (.cons (.bi true .len (.cons (.loc 0) .nil)) .nil))) .nil))) .nil)) .no) .nil))) .nil)
def n_k12_law : Nat := 2
end G
namespace G
open PySem L2
local macro_rules | `(tactic| simp_arith [$xs,*]) => `(tactic| simp only [wFn, wSs, wS, x_loc, x_const, x_glob, x_bin, x_neg, x_cmp, x_cmp2, x_bool, x_not, x_ite, x_bi, x_meth, x_attr, x_sub, x_sl, x_tup, x_lst, x_lc, x_sset, x_repl, x_dct, x_dc, x_rngT, x_rev, x_ssc, rv_tup, rv_lst, x_isiS, x_isiI, x_isiB, x_isiT, x_isiL, x_isiD, mkV, wB, wEs, wO, wTo, wI, wPs, wL, wLs, wG, wGs, lhsLen, esLen, pick, tgSlots, tgsSlots, wipeD, List.map_cons, List.map_nil, List.append_nil, List.nil_append, List.cons_append, List.length_cons, List.length_nil, Nat.reduceAdd, Nat.reduceSub, List.replicate, List.set_cons_zero, List.set_cons_succ, List.set_nil, List.getElem?_cons_zero, List.getElem?_cons_succ, Option.some.injEq, exists_eq_left', exists_eq_left, exists_eq_right, true_and, and_true, if_true, if_false, Bool.false_eq_true, reduceIte, List.getD_cons_zero, List.getD_cons_succ, tru_bl, tru_int, tru_non, D.bl.injEq, D.int.injEq, o_addI, o_subI, o_mulI, o_divI, o_modI, o_powI, o_addS, o_addL, o_addT, c_ltI, c_leI, c_gtI, c_geI, c_ltS, c_eqI, c_neI, c_eqS, c_neS, b_lenS, b_lenT, b_lenL, b_lenK, b_absI, b_maxI, b_minI, b_intI, b_intB, b_tupS, b_tupL, b_lstS, b_dvm, i_str, i_lst, i_tup, i_lsk, l_str, l_tup, l_lst, l_lsk, n_frz, n_obj, r_one, r_two, ak_non, ak_bl, ak_int, ak_str, ak_tup, ak_lst, ak_dct, kS_non, kS_bl, kS_int, kS_str, kS_tup, kS_lst, kS_dct, kS_ins, kS_obj, kI_non, kI_bl, kI_int, kI_str, kI_tup, kI_lst, kI_dct, kI_ins, kI_obj, kB_non, kB_bl, kB_int, kB_str, kB_tup, kB_lst, kB_dct, kB_ins, kB_obj, kT_non, kT_bl, kT_int, kT_str, kT_tup, kT_lst, kT_dct, kT_ins, kT_obj, kL_non, kD_non, kL_bl, kD_bl, kL_int, kD_int, kL_str, kD_str, kL_tup, kD_tup, kL_lst, kD_lst, kL_dct, kD_dct, kL_ins, kD_ins, c_inS, c_niS, c_inT, c_niT, c_inL, c_niL, c_is, c_isn, c_isB, i_dct, nn_non, nn_int, nn_str, nn_tup, nn_lst, b_tupT, b_rpr, decide_true, decide_false, Bool.not_true, Bool.not_false, Bool.and_true, Bool.true_and, Bool.and_false, Bool.false_and, $xs,*])
section
variable {T : Tab} {f0 f1 f2 : Str}
theorem ok_k12_right (h0 : T.Fn f0 φ_scene) (h1 : T.Fn f1 φ_done) (h2 : T.Fn f2 φ_pick) (kB : T.Mk "Board" [] φ_Board_init) (hp : T.Fn "painted" φ_painted) (hk : T.Kw "painted" 0 ["history", "board", "picture"] [.inl 1, .inl 2, .inl 0] φ_painted) : Ok T n_k12_right (b_k12_right f0 f1 f2) φ_ask := by
  intro ds S Q E hφ
  match ds, hφ with
  | [.obj a], hh =>
    obtain ⟨hps, q⟩ := hh
    simp_arith [b_k12_right, n_k12_right, x_call h0, φ_scene]
    refine ⟨hps, fun h w bs pic hs S1 k hl hn ho hK1 => ?_⟩
    refine ⟨_, rfl, rfl, ?_⟩
    have hsc := shw_scene k hl hn ho
    have hrp := repr_ok (d := sceneD h w bs pic hs) rfl hsc.1 (by omega) (by unfold lim; omega)
    unfold sceneD at hrp
    simp_arith [c_k12_right_9, x_make kB]
    refine ⟨_, _, rfl, rfl, _, _, rfl, rfl, _, _, rfl, rfl, fun b hb => brd_mk k hb ⟨by decide, hrp, ?_⟩⟩
    simp_arith [c_k12_right_8, x_call h1, φ_done]
    have hbo : ∀ b ∈ bs, b.Ok pic.length := by rw [hn]; exact k.ok
    have hl36 := k.n36
    refine ⟨_, _, rfl, rfl, bs, hs, rfl, by have := k.b12; omega, hbo, by omega, rfl, ho.2, ?_⟩
    have dl : letters (paintF bs pic hs) := paintF_letters k.ok hl ho.2
    have dn : (paintF bs pic hs).length = h * w := by rw [paintF_len]; exact hn
    have pt : ∀ {S : Sto} {Q : QV} {E : QX} (pic' : List Nat) (hs' : List Stroke), letters pic' → pic'.length = h * w → HsOk bs hs' → Q (.str (paintF bs pic' hs')) S → φ_painted [brd h w bs, .str pic', histD hs'] S Q E := fun pic' hs' h1 h2 h3 q => ⟨h, w, bs, pic', hs', rfl, k, rfl, h1, h2, rfl, h3, by rw [paintL_eq]; exact q⟩
    simp_arith [c_k12_right_7, x_call hp]
    refine pt pic hs hl hn ho ?_
    simp_arith [c_k12_right_6, x_callk0 hk]
    refine pt pic hs hl hn ho ?_
    simp_arith [wFn]
    simp_arith [c_k12_right_5]
    simp_arith [c_k12_right_4, histD]
    refine ⟨_, rfl, ?_⟩
    refine wFor_inv (fun i ρ S' => S' = S1 ∧ ∃ x4, ρ = [some (.obj a), some (.str (paintF bs pic hs)), some (.str (paintF bs pic hs)), some (.str (paintF bs pic (hs.take i))), x4, none, none, some (.tup [.int h, .int w, .tup (bs.map Band.d)]), some (.str pic), some (.tup (hs.map strokeD)), some (brd h w bs), some (.str (reprD (.lst [.tup [.int h, .int w, .tup (bs.map Band.d)], .str pic, .tup (hs.map strokeD)])))]) 0 ⟨rfl, _, rfl⟩ ?_ ?_
    · rintro j d ρ S' hj ⟨rfl, x4, rfl⟩
      rw [List.getElem?_map] at hj
      cases hp' : hs[j]? with
      | none => rw [hp'] at hj; cases hj
      | some p =>
        rw [hp'] at hj
        cases hj
        have hm := List.mem_of_getElem? hp'
        refine ⟨trivial, fun nx hnx => ?_⟩
        simp_arith [x_call hp]
        refine ⟨by decide, ?_⟩
        have e : D.tup [strokeD p] = histD [p] := rfl
        rw [e]
        refine pt _ [p] (paintF_letters k.ok hl fun q hq => ho.2 q (List.mem_of_mem_take hq)) (by rw [paintF_len]; exact hn) ⟨by show 1 ≤ 60; decide, fun q hq => by rw [List.mem_singleton.mp hq]; exact ho.2 p hm⟩ (hnx _ _ ⟨rfl, some (strokeD p), ?_⟩)
        rw [Nat.zero_add, paintF_app, List.take_add_one, hp']
        rfl
    · rintro ρ S' ⟨rfl, x4, rfl⟩
      rw [List.length_map, Nat.zero_add, List.take_length]
      refine ⟨trivial, ?_⟩
      simp_arith [c_k12_right_3, x_call h2, φ_pick, List.length_map]
      have ho60 := ho.1
      refine ⟨hK1.1, by omega, by omega, fun ct S2 hct hK2 => ?_⟩
      simp_arith [c_k12_right_2, x_call hp, cut_take, cut_drop, ← List.map_take, ← List.map_drop]
      have ht : HsOk bs (hs.take ct) := ho.sub (fun p hp => List.mem_of_mem_take hp) (by rw [List.length_take]; omega)
      have hd : HsOk bs (hs.drop ct) := ho.sub (fun p hp => List.mem_of_mem_drop hp) (by rw [List.length_drop]; omega)
      refine pt pic (hs.take ct) hl hn ht ?_
      refine pt _ (hs.drop ct) (paintF_letters k.ok hl ht.2) (by rw [paintF_len]; exact hn) hd ?_
      rw [paintF_app, List.take_append_drop]
      simp_arith [c_k12_right_1, x_call hp, c_ne]
      refine pt _ hs dl dn ho ?_
      rw [paintF_twice]
      refine ⟨by decide, pt pic [] hl hn ⟨by decide, fun p hp => by cases hp⟩ ⟨by decide, by decide, ⟨rfl, rfl, by show 1 ≤ 64; decide, by show 1 ≤ 64; decide⟩, ?_⟩⟩
      have e0 : paintF bs pic [] = pic := rfl
      rw [e0, beq_refl _ rfl]
      simp_arith [c_k12_right_0, x_call hp]
      refine ⟨by decide, hrp, ?_⟩
      refine pt pic hs hl hn ho ?_
      simp_arith [wFn]
      exact ⟨_, Sub.refl _, q _⟩
theorem ok_k12_law (h0 : T.Fn f0 φ_ask) (h1 : T.Fn f1 φ_purse) (h2 : T.Fn f2 φ_cell) : Ok T n_k12_law (b_k12_law f0 f1 f2) φ_law := by
  intro ds S Q E hφ
  match ds, hφ with
  | [x], hh =>
    obtain ⟨ns, rfl, hn, q⟩ := hh
    simp_arith [b_k12_law, n_k12_law, List.length_map]
    obtain ⟨t0, t1⟩ := times (k := 2) (l := (ns.length : Int)) (m := 12) (by decide) (by decide) (by decide) (by decide)
    generalize (if (if (ns.length : Int) < 12 then (ns.length : Int) else 12) > 2 then (if (ns.length : Int) < 12 then (ns.length : Int) else 12) else 2) = r at t0 t1
    refine ⟨by constructor <;> omega, ?_⟩
    refine wLc_inv (fun i acc S' => acc = List.replicate i (.bl true)) 0 rfl ?_ ?_ ?_
    · rintro j d acc S' hj rfl
      rw [List.getElem?_map] at hj
      cases hj' : (List.range r.toNat)[j]? with
      | none => rw [hj'] at hj; cases hj
      | some j' =>
        rw [hj'] at hj
        cases hj
        have hj2 : j' < r.toNat := List.mem_range.mp (List.mem_of_getElem? hj')
        refine ⟨trivial, fun k1 k0 hk1 hk0 => ?_⟩
        simp_arith [x_call h0, x_call h1, x_call h2, φ_cell, φ_purse, φ_ask]
        refine ⟨ns, rfl, hn, by omega, by omega, fun z b S2 hb hps _ => ⟨hps, fun S3 => hk1 _ _ ?_⟩⟩
        rw [List.replicate_succ']
    · rintro j acc S' hj rfl
      rw [List.length_map, List.length_range] at hj
      rw [List.length_replicate]
      unfold lim
      omega
    · rintro acc S' rfl
      refine ⟨trivial, List.replicate _ true, by rw [List.map_replicate], ?_⟩
      rw [all_reps]
      exact ⟨_, Sub.refl _, q _⟩
end
end G
namespace G
open PySem L2
def c_k14_other_0 (f0 f1 f2 : Str) : Ss := (.cons (.ret (.bin .Add (.bin .Add (.sl (.loc 2) .no (.yes (.loc 5))) (.loc 7)) (.sl (.loc 2) (.yes (.bin .Add (.loc 5) (.const (.int 2)))) .no))) .nil)
def c_k14_other_1 (f0 f1 f2 : Str) : Ss := (.cons (.ret (.bin .Add (.bin .Add (.sl (.loc 2) .no (.yes (.loc 5))) (.tup (.cons (.loc 9) .nil))) (.sl (.loc 2) (.yes (.bin .Add (.loc 5) (.const (.int 1)))) .no))) .nil)
def c_k14_other_2 (f0 f1 f2 : Str) : Ss := (.cons (.asg (.name 9) (.tup (.cons (.sub (.sub (.loc 2) (.loc 5)) (.const (.int 0))) (.cons (.sub (.loc 8) (.call f0 (.cons (.loc 0) (.cons (.bi true .len (.cons (.loc 8) .nil)) .nil)) [])) .nil)))) (c_k14_other_1 f0 f1 f2))
def c_k14_other_3 (f0 f1 f2 : Str) : Ss := (.cons (.ret (.ite (.cmp .Eq (.loc 4) (.const (.int 6))) (.loc 3) (.loc 2))) .nil)
def c_k14_other_4 (f0 f1 f2 : Str) : Ss := (.cons (.ife (.cmp .Eq (.loc 4) (.const (.int 5))) (.cons (.ret (.call f2 (.cons (.loc 1) (.cons (.loc 2) .nil)) [])) .nil) .nil) (c_k14_other_3 f0 f1 f2))
def c_k14_other_5 (f0 f1 f2 : Str) : Ss := (.cons (.ife (.cmp .Eq (.loc 4) (.const (.int 4))) (.cons (.ret (.rev true (.loc 2))) .nil) .nil) (c_k14_other_4 f0 f1 f2))
def c_k14_other_6 (f0 f1 f2 : Str) : Ss := (.cons (.ife (.bool .And (.cons (.cmp .Eq (.loc 4) (.const (.int 3))) (.cons (.cmp .Lt (.loc 5) (.bi true .len (.cons (.loc 2) .nil))) .nil))) (.cons (.asg (.name 8) (.sub (.sub (.lc true (.loc 10) (.name 10) (.seq (.loc 1)) (.yes (.cmp .Eq (.sub (.loc 10) (.const (.int 0))) (.sub (.sub (.loc 2) (.loc 5)) (.const (.int 0)))))) (.const (.int 0))) (.const (.int 2)))) (c_k14_other_2 f0 f1 f2)) .nil) (c_k14_other_5 f0 f1 f2))
def c_k14_other_7 (f0 f1 f2 : Str) : Ss := (.cons (.ife (.cmp .Eq (.loc 4) (.const (.int 2))) (.cons (.ret (.bin .Add (.bin .Add (.sl (.loc 2) .no (.yes (.loc 5))) (.sl (.loc 2) (.yes (.loc 6)) (.yes (.bin .Add (.loc 6) (.const (.int 1)))))) (.sl (.loc 2) (.yes (.loc 5)) .no))) .nil) .nil) (c_k14_other_6 f0 f1 f2))
def c_k14_other_8 (f0 f1 f2 : Str) : Ss := (.cons (.ife (.cmp .Eq (.loc 4) (.const (.int 1))) (.cons (.ret (.bin .Add (.sl (.loc 2) .no (.yes (.loc 5))) (.sl (.loc 2) (.yes (.bin .Add (.loc 5) (.const (.int 1)))) .no))) .nil) .nil) (c_k14_other_7 f0 f1 f2))
def c_k14_other_9 (f0 f1 f2 : Str) : Ss := (.cons (.ife (.cmp .Eq (.loc 4) (.const (.int 0))) (.cons (.asg (.name 7) (.bin .Add (.sl (.loc 2) (.yes (.bin .Add (.loc 5) (.const (.int 1)))) (.yes (.bin .Add (.loc 5) (.const (.int 2))))) (.sl (.loc 2) (.yes (.loc 5)) (.yes (.bin .Add (.loc 5) (.const (.int 1))))))) (c_k14_other_0 f0 f1 f2)) .nil) (c_k14_other_8 f0 f1 f2))
def c_k14_other_10 (f0 f1 f2 : Str) : Ss := (.cons (.asg (.name 3) (.call f1 (.cons (.loc 0) (.cons (.loc 1) (.cons (.const (.int 10)) .nil))) [])) (c_k14_other_9 f0 f1 f2))
def b_k14_other (f0 f1 f2 : Str) : Ss := (.cons (.asg (.tup (.cons (.name 4) (.cons (.name 5) (.cons (.name 6) .nil)))) (.tup (.cons (.call f0 (.cons (.loc 0) (.cons (.const (.int 8)) .nil)) []) (.cons (.call f0 (.cons (.loc 0) (.cons (.bin .Add (.bi true .len (.cons (.loc 2) .nil)) (.const (.int 1))) .nil)) []) (.cons (.call f0 (.cons (.loc 0) (.cons (.bin .Add (.bi true .len (.cons (.loc 2) .nil)) (.const (.int 1))) .nil)) []) .nil))))) (c_k14_other_10 f0 f1 f2))
def n_k14_other : Nat := 11
def c_k14_two_0 (f0 : Str) : Ss := (.cons (.ret (.bool .And (.cons (.cmp .Eq (.cmp .Eq (.call "mark" (.cons (.loc 0) (.cons (.loc 3) .nil)) []) (.call "mark" (.cons (.loc 0) (.cons (.loc 4) .nil)) [])) (.loc 5)) (.cons (.cmp .Is (.call "alike" (.cons (.loc 0) (.cons (.loc 3) (.cons (.loc 3) .nil))) []) (.const (.bl true))) .nil)))) .nil)
def c_k14_two_1 (f0 : Str) : Ss := (.cons (.ife (.not (.bi true .all (.cons (.lc true (.bool .And (.cons (.isi (.loc 8) (.b "bool")) (.cons (.cmp .Eq (.loc 8) (.loc 5)) .nil))) (.name 8) (.seq (.loc 6)) .no) .nil))) (.cons (.ret (.const (.bl false))) .nil) .nil) (c_k14_two_0 f0))
def c_k14_two_2 (f0 : Str) : Ss := (.cons (.asg (.name 6) (.lst true (.cons (.call "alike" (.cons (.loc 0) (.cons (.loc 3) (.cons (.loc 4) .nil))) []) (.cons (.call "alike" (.cons (.loc 0) (.cons (.loc 4) (.cons (.loc 3) .nil))) []) (.cons (.callk "alike" .nil ["other", "one", "board"] (.cons (.loc 4) (.cons (.loc 3) (.cons (.loc 0) .nil))) [.inl 2, .inl 1, .inl 0]) .nil))))) (c_k14_two_1 f0))
def c_k14_two_3 (f0 : Str) : Ss := (.cons (.ife (.cmp .NotEq (.loc 5) (.bi true .all (.cons (.lc true (.cmp .Eq (.call "painted" (.cons (.loc 0) (.cons (.loc 7) (.cons (.loc 3) .nil))) []) (.call "painted" (.cons (.loc 0) (.cons (.loc 7) (.cons (.loc 4) .nil))) [])) (.name 7) (.seq (.loc 2)) .no) .nil))) (.cons (.ret (.const (.bl false))) .nil) .nil) (c_k14_two_2 f0))
def b_k14_two (f0 : Str) : Ss := (.cons (.asg (.name 5) (.bi true .all (.cons (.lc true (.cmp .Eq (.call f0 (.cons (.loc 1) (.cons (.loc 7) (.cons (.loc 3) .nil))) []) (.call f0 (.cons (.loc 1) (.cons (.loc 7) (.cons (.loc 4) .nil))) [])) (.name 7) (.seq (.loc 2)) .no) .nil))) (c_k14_two_3 f0))
def n_k14_two : Nat := 9
def c_k14_right_0 (f0 f1 f2 f3 f4 f5 f6 : Str) : Ss := (.cons (.ret (.cmp .Is (.call "alike" (.cons (.loc 7) (.cons (.loc 3) (.cons (.call f6 (.cons (.loc 1) (.cons (.loc 3) .nil)) []) .nil))) []) (.const (.bl true)))) .nil)
def c_k14_right_1 (f0 f1 f2 f3 f4 f5 f6 : Str) : Ss := (.cons (.for (.name 4) (.range (.cons (.const (.int 5)) .nil)) (.cons (.ife (.not (.call f4 (.cons (.loc 7) (.cons (.loc 1) (.cons (.loc 2) (.cons (.loc 3) (.cons (.call f5 (.cons (.loc 0) (.cons (.loc 1) (.cons (.loc 3) .nil))) []) .nil))))) [])) (.cons (.ret (.const (.bl false))) .nil) .nil) .nil)) (c_k14_right_0 f0 f1 f2 f3 f4 f5 f6))
def c_k14_right_2 (f0 f1 f2 f3 f4 f5 f6 : Str) : Ss := (.cons (.asg (.name 3) (.call f3 (.cons (.loc 0) (.cons (.loc 1) (.cons (.const (.int 10)) .nil))) [])) (c_k14_right_1 f0 f1 f2 f3 f4 f5 f6))
def c_k14_right_3 (f0 f1 f2 f3 f4 f5 f6 : Str) : Ss := (.cons (.asg (.name 2) (.bin .Add (.lc true (.bin .Mult (.loc 9) (.loc 8)) (.name 9) (.seq (.const (.str [114, 115, 116, 117, 118, 119, 97, 122]))) .no) (.lc true (.call f2 (.cons (.loc 0) (.cons (.loc 8) .nil)) []) (.name 4) (.range (.cons (.const (.int 2)) .nil)) .no))) (c_k14_right_2 f0 f1 f2 f3 f4 f5 f6))
def c_k14_right_4 (f0 f1 f2 f3 f4 f5 f6 : Str) : Ss := (.cons (.asg (.tup (.cons (.name 7) (.cons (.name 8) .nil))) (.tup (.cons (.make true "Board" (.cons (.loc 5) (.cons (.loc 6) (.cons (.loc 1) .nil))) []) (.cons (.bin .Mult (.loc 5) (.loc 6)) .nil)))) (c_k14_right_3 f0 f1 f2 f3 f4 f5 f6))
def c_k14_right_5 (f0 f1 f2 f3 f4 f5 f6 : Str) : Ss := (.cons (.asg (.name 1) (.call f1 (.cons (.loc 0) (.cons (.loc 5) (.cons (.loc 6) (.cons (.call f0 (.cons (.loc 0) (.cons (.const (.int 6)) .nil)) []) .nil)))) [])) (c_k14_right_4 f0 f1 f2 f3 f4 f5 f6))
def b_k14_right (f0 f1 f2 f3 f4 f5 f6 : Str) : Ss := (.cons (.par 5 6 (.bin .Add (.const (.int 1)) (.call f0 (.cons (.loc 0) (.cons (.const (.int 3)) .nil)) [])) (.bin .Add (.const (.int 1)) (.call f0 (.cons (.loc 0) (.cons (.const (.int 3)) .nil)) []))) (c_k14_right_5 f0 f1 f2 f3 f4 f5 f6))
def n_k14_right : Nat := 10
def b_k14_law (f0 f1 f2 : Str) : Ss := (.cons (.ret (.bi true .all (.cons (.lc true (.call f0 (.cons (.call f1 (.cons (.call f2 (.cons (.loc 0) (.cons (.loc 1) .nil)) []) .nil) []) .nil) []) (.name 1) (.range (.cons (.bi true .max2 (.cons (.const (.int 2)) (.cons (.bi true .min2 (.cons (.const (.int 10)) (.cons (.bi true .len (.cons (.loc 0) .nil)) .nil))) .nil))) .nil)) .no) .nil))) .nil)
def n_k14_law : Nat := 2
end G
namespace G
open PySem L2
local macro_rules | `(tactic| simp_arith [$xs,*]) => `(tactic| simp only [wFn, wSs, wS, x_loc, x_const, x_glob, x_bin, x_neg, x_cmp, x_cmp2, x_bool, x_not, x_ite, x_bi, x_meth, x_attr, x_sub, x_sl, x_tup, x_lst, x_lc, x_sset, x_repl, x_dct, x_dc, x_rngT, x_rev, x_ssc, rv_tup, rv_lst, x_isiS, x_isiI, x_isiB, x_isiT, x_isiL, x_isiD, mkV, wB, wEs, wO, wTo, wI, wPs, wL, wLs, wG, wGs, lhsLen, esLen, pick, tgSlots, tgsSlots, wipeD, List.map_cons, List.map_nil, List.append_nil, List.nil_append, List.cons_append, List.length_cons, List.length_nil, Nat.reduceAdd, Nat.reduceSub, List.replicate, List.set_cons_zero, List.set_cons_succ, List.set_nil, List.getElem?_cons_zero, List.getElem?_cons_succ, Option.some.injEq, exists_eq_left', exists_eq_left, exists_eq_right, true_and, and_true, if_true, if_false, Bool.false_eq_true, reduceIte, List.getD_cons_zero, List.getD_cons_succ, tru_bl, tru_int, tru_non, D.bl.injEq, D.int.injEq, o_addI, o_subI, o_mulI, o_divI, o_modI, o_powI, o_addS, o_addL, o_addT, c_ltI, c_leI, c_gtI, c_geI, c_ltS, c_eqI, c_neI, c_eqS, c_neS, b_lenS, b_lenT, b_lenL, b_lenK, b_absI, b_maxI, b_minI, b_intI, b_intB, b_tupS, b_tupL, b_lstS, b_dvm, i_str, i_lst, i_tup, i_lsk, l_str, l_tup, l_lst, l_lsk, n_frz, n_obj, r_one, r_two, ak_non, ak_bl, ak_int, ak_str, ak_tup, ak_lst, ak_dct, kS_non, kS_bl, kS_int, kS_str, kS_tup, kS_lst, kS_dct, kS_ins, kS_obj, kI_non, kI_bl, kI_int, kI_str, kI_tup, kI_lst, kI_dct, kI_ins, kI_obj, kB_non, kB_bl, kB_int, kB_str, kB_tup, kB_lst, kB_dct, kB_ins, kB_obj, kT_non, kT_bl, kT_int, kT_str, kT_tup, kT_lst, kT_dct, kT_ins, kT_obj, kL_non, kD_non, kL_bl, kD_bl, kL_int, kD_int, kL_str, kD_str, kL_tup, kD_tup, kL_lst, kD_lst, kL_dct, kD_dct, kL_ins, kD_ins, c_inS, c_niS, c_inT, c_niT, c_inL, c_niL, c_is, c_isn, c_isB, i_dct, nn_non, nn_int, nn_str, nn_tup, nn_lst, b_tupT, b_rpr, decide_true, decide_false, Bool.not_true, Bool.not_false, Bool.and_true, Bool.true_and, Bool.and_false, Bool.false_and, $xs,*])
theorem cut_map {α β : Type} (f : α → β) (xs : List α) (lo hi : Option Int) : cut (xs.map f) lo hi = (cut xs lo hi).map f := by
  unfold cut
  rw [List.length_map, List.map_take, List.map_drop]
theorem cut_sub {α : Type} (xs : List α) (lo hi : Option Int) : (∀ p ∈ cut xs lo hi, p ∈ xs) ∧ (cut xs lo hi).length ≤ xs.length := by
  unfold cut
  refine ⟨fun p hp => List.mem_of_mem_drop (List.mem_of_mem_take hp), ?_⟩
  rw [List.length_take, List.length_drop]
  omega
theorem lastCs_len (bs : List Band) (n : Nat) (hs : List Stroke) : (lastCs bs n hs).length = n := by unfold lastCs; rw [List.length_map, lastNs_len]
theorem paint_alike {bs : List Band} {n : Nat} {hs ks : List Stroke} {pics : List (List Nat)} (hl : ∀ p ∈ pics, p.length = n) (h1 : List.replicate n 114 ∈ pics) (h2 : List.replicate n 115 ∈ pics) :
    (pics.all fun p => decide (paintF bs p hs = paintF bs p ks)) = decide (lastCs bs n hs = lastCs bs n ks) := by
  rw [Bool.eq_iff_iff, List.all_eq_true, decide_eq_true_iff]
  constructor
  · intro h
    have e1 := of_decide_eq_true (h _ h1)
    have e2 := of_decide_eq_true (h _ h2)
    apply List.ext_getElem?
    intro c
    by_cases hc : c < n
    · rw [lastCs_get hc, lastCs_get hc]
      have a1 := congrArg (fun l => l[c]?) e1
      have a2 := congrArg (fun l => l[c]?) e2
      simp only [paintF_get, List.getElem?_replicate, hc, if_true, Option.map_some, Option.some.injEq] at a1 a2
      congr 1
      cases hx : lastCol bs hs c with
      | none =>
        cases hy : lastCol bs ks c with
        | none => rfl
        | some y => rw [hx, hy] at a1 a2; simp at a1 a2; omega
      | some x =>
        cases hy : lastCol bs ks c with
        | none => rw [hx, hy] at a1 a2; simp at a1 a2; omega
        | some y => rw [hx, hy] at a1; simp at a1; rw [a1]
    · rw [List.getElem?_eq_none (by rw [lastCs_len]; omega), List.getElem?_eq_none (by rw [lastCs_len]; omega)]
  · intro h p hp
    rw [decide_eq_true_iff]
    apply List.ext_getElem?
    intro c
    rw [paintF_get, paintF_get]
    by_cases hc : c < n
    · have a := congrArg (fun l => l[c]?) h
      simp only [lastCs_get hc, Option.some.injEq] at a
      rw [a]
    · rw [List.getElem?_eq_none (by rw [hl p hp]; omega)]
      rfl
section
variable {T : Tab} {f0 f1 f2 f3 f4 f5 f6 : Str}
def φ_k14_other : FSp := fun ds S Q E => match ds with
  | [.obj a, x, y] => PS a S ∧ ∃ (bs : List Band) (hs : List Stroke) (n : Nat), x = .tup (bs.map Band.d) ∧ bs.length ≤ 12 ∧ (∀ b ∈ bs, b.Ok n) ∧ n ≤ 36 ∧ y = histD hs ∧ hs.length ≤ 10 ∧ (∀ p ∈ hs, StOk bs p) ∧
      ∀ (ks : List Stroke) S', HsOk bs ks → Kp a S S' → Q (histD ks) S'
  | _ => False
theorem ok_k14_other (h0 : T.Fn f0 φ_pick) (h1 : T.Fn f1 φ_story) (h2 : T.Fn f2 φ_thin) : Ok T n_k14_other (b_k14_other f0 f1 f2) φ_k14_other := by
  intro ds S Q E hφ
  match ds, hφ with
  | [.obj a, x, y], hh =>
    obtain ⟨hps, bs, hs, n, rfl, hb, hbo, hn, rfl, hl, ho, q⟩ := hh
    simp_arith [b_k14_other, n_k14_other, x_call h0, φ_pick, histD, List.length_map]
    refine ⟨hps, by decide, by decide, fun way S1 hway hK1 => ⟨hK1.1, by omega, by omega, fun r1 S2 hr1 hK2 => ⟨hK2.1, by omega, by omega, fun r2 S3 hr2 hK3 => ?_⟩⟩⟩
    refine ⟨by decide, _, rfl, rfl, ?_⟩
    simp_arith [c_k14_other_10, x_call h1, φ_story]
    refine ⟨hK3.1, bs, n, 10, rfl, hb, hbo, rfl, by decide, fun fr S4 hfl hfo hK4 => ?_⟩
    have hK := ((hK1.trans hK2).trans hK3).trans hK4
    have L : ∀ k : Nat, k ≤ 100 → k ≤ lim := fun k hk => by unfold lim; omega
    have c1 : ∀ lo hi, cut (hs.map strokeD) lo hi = (cut hs lo hi).map strokeD := fun lo hi => cut_map strokeD hs lo hi
    have c2 : ∀ lo hi, (cut hs lo hi).length ≤ 10 := fun lo hi => Nat.le_trans (cut_sub hs lo hi).2 hl
    have c3 : ∀ lo hi, ∀ p ∈ cut hs lo hi, StOk bs p := fun lo hi p hp => ho p ((cut_sub hs lo hi).1 p hp)
    have fin : ∀ ks : List Stroke, ks.length ≤ 60 → (∀ p ∈ ks, StOk bs p) → Q (.tup (ks.map strokeD)) S4 := fun ks h1 h2 => q ks S4 ⟨h1, h2⟩ hK
    have fin2 : ∀ a b : List Stroke, a.length ≤ 20 → b.length ≤ 20 → (∀ p ∈ a, StOk bs p) → (∀ p ∈ b, StOk bs p) → (a.map strokeD).length + (b.map strokeD).length ≤ lim ∧ ∃ S2, Sub S2 S4 ∧ Q (.tup (a.map strokeD ++ b.map strokeD)) S2 := fun a b ha hb h1 h2 =>
      ⟨by rw [List.length_map, List.length_map]; exact L _ (by omega), S4, Sub.refl _, by rw [← List.map_append]; exact fin _ (by rw [List.length_append]; omega) fun p hp => (List.mem_append.mp hp).elim (h1 p) (h2 p)⟩
    have fin3 : ∀ a b c : List Stroke, a.length ≤ 20 → b.length ≤ 20 → c.length ≤ 20 → (∀ p ∈ a, StOk bs p) → (∀ p ∈ b, StOk bs p) → (∀ p ∈ c, StOk bs p) → (a.map strokeD).length + (b.map strokeD).length ≤ lim ∧ (a.map strokeD ++ b.map strokeD).length + (c.map strokeD).length ≤ lim ∧ ∃ S2, Sub S2 S4 ∧ Q (.tup (a.map strokeD ++ b.map strokeD ++ c.map strokeD)) S2 := fun a b c ha hb hc h1 h2 h3 =>
      ⟨by rw [List.length_map, List.length_map]; exact L _ (by omega), by rw [List.length_append, List.length_map, List.length_map, List.length_map]; exact L _ (by omega), S4, Sub.refl _, by
        rw [← List.map_append, ← List.map_append]
        exact fin _ (by rw [List.length_append, List.length_append]; omega) fun p hp => (List.mem_append.mp hp).elim (fun hp => (List.mem_append.mp hp).elim (h1 p) (h2 p)) (h3 p)⟩
    simp_arith [c_k14_other_9]
    split
    · simp_arith [c_k14_other_0, c1, ← List.map_append]
      refine ⟨by rw [List.length_map, List.length_map]; have := c2 (some ((r1 : Int) + 1)) (some ((r1 : Int) + 2)); have := c2 (some (r1 : Int)) (some ((r1 : Int) + 1)); exact L _ (by omega), ?_⟩
      have := fin3 (cut hs none (some (r1 : Int))) (cut hs (some ((r1 : Int) + 1)) (some ((r1 : Int) + 2)) ++ cut hs (some (r1 : Int)) (some ((r1 : Int) + 1))) (cut hs (some ((r1 : Int) + 2)) none)
        (by have := c2 none (some (r1 : Int)); omega) (by rw [List.length_append]; have := c2 (some ((r1 : Int) + 1)) (some ((r1 : Int) + 2)); have := c2 (some (r1 : Int)) (some ((r1 : Int) + 1)); omega) (by have := c2 (some ((r1 : Int) + 2)) none; omega)
        (c3 _ _) (fun p hp => (List.mem_append.mp hp).elim (c3 _ _ p) (c3 _ _ p)) (c3 _ _)
      simpa only [List.map_append] using this
    simp_arith [c_k14_other_8]
    split
    · simp_arith [c1]
      exact fin2 _ _ (by have := c2 none (some (r1 : Int)); omega) (by have := c2 (some ((r1 : Int) + 1)) none; omega) (c3 _ _) (c3 _ _)
    simp_arith [c_k14_other_7]
    split
    · simp_arith [c1]
      exact fin3 _ _ _ (by have := c2 none (some (r1 : Int)); omega) (by have := c2 (some (r2 : Int)) (some ((r2 : Int) + 1)); omega) (by have := c2 (some (r1 : Int)) none; omega) (c3 _ _) (c3 _ _) (c3 _ _)
    have rest : wSs T E (c_k14_other_5 f0 f1 f2) [some (.obj a), some (.tup (bs.map Band.d)), some (.tup (hs.map strokeD)), some (.tup (fr.map strokeD)), some (.int way), some (.int r1), some (.int r2), none, none, none, none] S4
        { nx := fun x S1 => ∃ S2, Sub S2 S1 ∧ Q D.non S2, rt := fun d S1 => ∃ S2, Sub S2 S1 ∧ Q d S2, bk := fun x x_1 => False, ct := fun x x_1 => False } := by
      simp_arith [c_k14_other_5]
      split
      · simp_arith [← List.map_reverse]
        exact ⟨S4, Sub.refl _, fin _ (by rw [List.length_reverse]; omega) fun p hp => ho p (List.mem_reverse.mp hp)⟩
      simp_arith [c_k14_other_4]
      split
      · simp_arith [x_call h2, φ_thin]
        refine ⟨bs, hs, n, rfl, by omega, hbo, hn, rfl, by omega, ho, S4, Sub.refl _, ?_⟩
        rw [thinL_eq]
        exact fin _ (by have := (seenS_sub bs hs).2; omega) fun p hp => ho p ((seenS_sub bs hs).1 p hp)
      simp_arith [c_k14_other_3]
      split
      · exact ⟨S4, Sub.refl _, fin _ (by omega) hfo⟩
      · exact ⟨S4, Sub.refl _, fin _ (by omega) ho⟩
    simp_arith [c_k14_other_6]
    cases h3 : decide ((way : Int) = 3) with
    | false => exact rest
    | true =>
      simp_arith [List.length_map]
      cases h4 : decide ((r1 : Int) < (hs.length : Int)) with
      | false => exact rest
      | true =>
        have hr : r1 < hs.length := by have := of_decide_eq_true h4; omega
        obtain ⟨bd, hbd, hnm, hpt⟩ := ho hs[r1] (List.getElem_mem _)
        dsimp only
        have e0 : atI (hs.map strokeD) (r1 : Int) = some (strokeD hs[r1]) := by rw [atI_nat _ _ (by rw [List.length_map]; exact hr), List.getElem_map]
        refine ⟨_, rfl, ?_⟩
        refine wLc_pure (fun d => d) (fun d => match d with | .tup [.str m, _, _, _] => decide (m = hs[r1].1) | _ => false) trivial (fun d hd k1 k0 hk1 hk0 => ?_) (by rw [List.length_map]; unfold lim; simp only [List.length_nil]; omega) ?_
        · obtain ⟨b, hb, rfl⟩ := List.mem_map.mp hd
          simp_arith [sub_name]
          refine ⟨_, _, rfl, e0, _, _, rfl, rfl, ?_⟩
          simp_arith [wFn]
          cases e : decide (b.name = hs[r1].1) with
          | true => exact hk1 e
          | false => exact hk0 e
        rw [List.nil_append, List.map_id', List.filter_map]
        have e1 : (bs.filter ((fun d => match d with | .tup [.str m, _, _, _] => decide (m = hs[r1].1) | _ => false) ∘ Band.d)) = bs.filter fun b => decide (b.name = hs[r1].1) := rfl
        rw [e1]
        cases hfl : bs.filter fun b => decide (b.name = hs[r1].1) with
        | nil => have : bd ∈ bs.filter fun b => decide (b.name = hs[r1].1) := List.mem_filter.mpr ⟨hbd, decide_eq_true hnm⟩; rw [hfl] at this; cases this
        | cons b' r =>
          have hb' : b' ∈ bs ∧ b'.name = hs[r1].1 := by
            have : b' ∈ bs.filter fun b => decide (b.name = hs[r1].1) := by rw [hfl]; exact List.mem_cons_self ..
            exact ⟨(List.mem_filter.mp this).1, of_decide_eq_true (List.mem_filter.mp this).2⟩
          have bo := hbo b' hb'.1
          have p0 := bo.p0
          have p6 := bo.p6
          refine ⟨_, b'.d, rfl, atI_zero, ?_⟩
          rw [sub_pots]
          simp_arith [c_k14_other_2, x_call h0, φ_pick]
          refine ⟨_, _, rfl, e0, _, _, rfl, rfl, by unfold lim; omega, hK4.1, by omega, by omega, fun r5 S5 hr5 hK5 => ?_⟩
          have hr5' : r5 < b'.pots.length := by omega
          refine ⟨by unfold lim; omega, _, atI_nat _ _ hr5', by decide, ?_⟩
          simp_arith [c_k14_other_1, c1]
          refine ⟨by decide, ?_⟩
          refine ⟨by rw [List.length_map]; have := c2 none (some (r1 : Int)); exact L _ (by omega), by simp only [List.length_append, List.length_map, List.length_cons, List.length_nil]; have := c2 none (some (r1 : Int)); have := c2 (some ((r1 : Int) + 1)) none; exact L _ (by omega), S5, Sub.refl _, ?_⟩
          have e2 : [D.tup [.str hs[r1].1, .str [b'.pots[r5]]]] = [((hs[r1].1, b'.pots[r5]) : Stroke)].map strokeD := rfl
          rw [e2, ← List.map_append, ← List.map_append]
          refine q _ S5 ⟨by rw [List.length_append, List.length_append, List.length_singleton]; have := c2 none (some (r1 : Int)); have := c2 (some ((r1 : Int) + 1)) none; omega, fun p hp => ?_⟩ (hK.trans hK5)
          rcases List.mem_append.mp hp with hp | hp
          · rcases List.mem_append.mp hp with hp | hp
            · exact c3 _ _ p hp
            · rw [List.mem_singleton.mp hp]
              exact ⟨b', hb'.1, hb'.2, List.getElem_mem _⟩
          · exact c3 _ _ p hp
def eqPaint (bs : List Band) (hs ks : List Stroke) (d : D) : Bool := match d with | .str p => decide (paintF bs p hs = paintF bs p ks) | _ => false
theorem all_eqPaint (bs : List Band) (hs ks : List Stroke) (pics : List (List Nat)) : ((pics.map D.str).map fun d => eqPaint bs hs ks d).all id = pics.all fun p => decide (paintF bs p hs = paintF bs p ks) := by
  rw [List.all_map, List.all_map]
  rfl
theorem beq_bl (a b : Bool) : beq (.bl a) (.bl b) = (a == b) := rfl
theorem c_eqB {a b : Bool} {S : Sto} {Q : QV} : cmpS .Eq (.bl a) (.bl b) S Q = Q (.bl (a == b)) S := by
  show ((plain (.bl a) = true ∧ plain (.bl b) = true ∧ depth (.bl a) ≤ 64 ∧ depth (.bl b) ≤ 64) ∧ Q (.bl (beq (.bl a) (.bl b))) S) = _
  simp [plain, depth, beq_bl]
theorem c_neB {a b : Bool} {S : Sto} {Q : QV} : cmpS .NotEq (.bl a) (.bl b) S Q = Q (.bl (a != b)) S := by
  show ((plain (.bl a) = true ∧ plain (.bl b) = true ∧ depth (.bl a) ≤ 64 ∧ depth (.bl b) ≤ 64) ∧ Q (.bl (!beq (.bl a) (.bl b))) S) = _
  simp [plain, depth, beq_bl]
  rfl
def φ_k14_two : FSp := fun ds S Q E => match ds with
  | [x, y, l, u, v] => ∃ (h w : Nat) (bs : List Band) (hs ks : List Stroke) (pics : List (List Nat)), x = brd h w bs ∧ BOk h w bs ∧ y = .tup (bs.map Band.d) ∧ l = .lst (pics.map D.str) ∧ pics.length ≤ 100 ∧ (∀ p ∈ pics, letters p ∧ p.length = h * w) ∧ List.replicate (h * w) 114 ∈ pics ∧ List.replicate (h * w) 115 ∈ pics ∧ u = histD hs ∧ HsOk bs hs ∧ v = histD ks ∧ HsOk bs ks ∧ Q (.bl true) S
  | _ => False
theorem ok_k14_two (h0 : T.Fn f0 φ_done) (f1 : T.Fn "painted" φ_painted) (f2 : T.Fn "alike" φ_alike) (k2 : T.Kw "alike" 0 ["other", "one", "board"] [.inl 2, .inl 1, .inl 0] φ_alike) (f3 : T.Fn "mark" φ_mark) : Ok T n_k14_two (b_k14_two f0) φ_k14_two := by
  intro ds S Q E hφ
  match ds, hφ with
  | [x, y, l, u, v], hh =>
    obtain ⟨h, w, bs, hs, ks, pics, rfl, k, rfl, rfl, hl, hp, m1, m2, rfl, ho, rfl, hk, q⟩ := hh
    have h36 := k.n36
    have hb12 := k.b12
    have al := paint_alike (bs := bs) (hs := hs) (ks := ks) (fun p hp' => (hp p hp').2) m1 m2
    have dl : (([] : List D).length + (pics.map D.str).length ≤ lim) := by rw [List.length_map]; unfold lim; simp only [List.length_nil]; omega
    simp_arith [b_k14_two, n_k14_two, x_call h0]
    refine ⟨_, rfl, ?_⟩
    refine wLc_pure (fun d => .bl (eqPaint bs hs ks d)) (fun _ => true) trivial (fun d hd k1 k0 hk1 hk0 => ?_) dl ?_
    · obtain ⟨p, hp', rfl⟩ := List.mem_map.mp hd
      simp_arith [φ_done]
      have e := (hp p hp').2
      refine ⟨bs, hs, rfl, by omega, fun b hb => by rw [e]; exact k.ok b hb, by omega, rfl, ho.2, bs, ks, rfl, by omega, fun b hb => by rw [e]; exact k.ok b hb, by omega, rfl, hk.2, ?_⟩
      exact hk1 rfl
    rw [List.nil_append, filter_all]
    refine ⟨(pics.map D.str).map fun d => eqPaint bs hs ks d, map_bl _ _, ?_⟩
    rw [all_eqPaint, al]
    generalize hdue : decide (lastCs bs (h * w) hs = lastCs bs (h * w) ks) = due at al
    simp_arith [c_k14_two_3, x_call f1]
    refine ⟨_, rfl, ?_⟩
    refine wLc_pure (fun d => .bl (eqPaint bs hs ks d)) (fun _ => true) trivial (fun d hd k1 k0 hk1 hk0 => ?_) dl ?_
    · obtain ⟨p, hp', rfl⟩ := List.mem_map.mp hd
      simp_arith [φ_painted]
      obtain ⟨e1, e2⟩ := hp p hp'
      refine ⟨h, w, bs, p, hs, rfl, k, rfl, e1, e2, rfl, ho, h, w, bs, p, ks, rfl, k, rfl, e1, e2, rfl, hk, ?_⟩
      rw [paintL_eq, paintL_eq]
      exact hk1 rfl
    rw [List.nil_append, filter_all]
    refine ⟨(pics.map D.str).map fun d => eqPaint bs hs ks d, map_bl _ _, ?_⟩
    rw [all_eqPaint, al]
    simp_arith [c_neB, bne_self_eq_false]
    simp_arith [c_k14_two_2, x_call f2, x_callk0 k2, φ_alike]
    refine ⟨h, w, bs, hs, ks, rfl, k, rfl, ho, rfl, hk, h, w, bs, ks, hs, rfl, k, rfl, hk, rfl, ho, h, w, bs, hs, ks, rfl, k, rfl, ho, rfl, hk, by decide, ?_⟩
    have sy : decide (lastCs bs (h * w) ks = lastCs bs (h * w) hs) = due := by rw [← hdue]; exact decide_eq_decide.mpr eq_comm
    rw [sy, hdue]
    simp_arith [c_k14_two_1]
    refine ⟨_, rfl, ?_⟩
    refine wLc_pure (fun _ => .bl true) (fun _ => true) trivial (fun d hd k1 k0 hk1 hk0 => ?_) (by show 3 ≤ lim; decide) ?_
    · have e : d = .bl due := by
        rcases List.mem_cons.mp hd with e | hd
        · exact e
        rcases List.mem_cons.mp hd with e | hd
        · exact e
        rcases List.mem_cons.mp hd with e | hd
        · exact e
        cases hd
      subst e
      simp_arith [c_eqB]
      have := hk1 rfl
      rw [show (due == due) = true from by cases due <;> rfl]
      exact this
    rw [List.nil_append, filter_all]
    refine ⟨[true, true, true], rfl, ?_⟩
    simp_arith [show ([true, true, true].all id) = true from rfl]
    simp_arith [c_k14_two_0, x_call f2, x_call f3, φ_alike, φ_mark]
    refine ⟨h, w, bs, hs, rfl, k, rfl, ho, h, w, bs, ks, rfl, k, rfl, hk, ?_⟩
    rw [c_eq]
    refine ⟨⟨plains_optC _, plains_optC _, by show depths _ + 1 ≤ 64; rw [depths_optC]; decide, by show depths _ + 1 ≤ 64; rw [depths_optC]; decide⟩, ?_⟩
    have e : beq (.tup ((lastCs bs (h * w) hs).map optC)) (.tup ((lastCs bs (h * w) ks).map optC)) = decide (lastCs bs (h * w) hs = lastCs bs (h * w) ks) := optC_beq _ _
    rw [e, hdue]
    simp_arith [c_eqB, beq_self_eq_true]
    refine ⟨h, w, bs, hs, hs, rfl, k, rfl, ho, rfl, ho, ?_⟩
    simp_arith [decide_true, beq_self_eq_true]
    exact ⟨S, Sub.refl S, q⟩
theorem rep_letter (n : Nat) (c : Nat) : (List.replicate n [c]).flatten = List.replicate n c := by
  induction n with
  | zero => rfl
  | succ n ih => rw [List.replicate_succ, List.flatten_cons, ih, List.replicate_succ]; rfl
theorem o_mulS {s : List Nat} {k : Int} {S : Sto} {Q : QV} : opS .Mult (.str s) (.int k) S Q = (0 ≤ k ∧ k ≤ 1000 ∧ s.length ≤ 1000 ∧ Q (.str (List.replicate k.toNat s).flatten) S) := rfl
theorem ok_k14_right (h0 : T.Fn f0 φ_pick) (h1 : T.Fn f1 φ_belts) (h2 : T.Fn f2 φ_view) (h3 : T.Fn f3 φ_story) (h4 : T.Fn f4 φ_k14_two) (h5 : T.Fn f5 φ_k14_other) (h6 : T.Fn f6 φ_thin) (kB : T.Mk "Board" [] φ_Board_init) (fa : T.Fn "alike" φ_alike) : Ok T n_k14_right (b_k14_right f0 f1 f2 f3 f4 f5 f6) φ_ask := by
  intro ds S Q E hφ
  match ds, hφ with
  | [.obj a], hh =>
    obtain ⟨hps, q⟩ := hh
    simp_arith [b_k14_right, n_k14_right, x_call h0, φ_pick]
    refine ⟨hps, by decide, by decide, fun r1 S1 hr1 hK1 => ⟨hK1.1, by decide, by decide, fun r2 S2 hr2 hK2 => ?_⟩⟩
    have et : (1 : Int) + (r1 : Int) = ((1 + r1 : Nat) : Int) := by simp
    have ew : (1 : Int) + (r2 : Int) = ((1 + r2 : Nat) : Int) := by simp
    rw [et, ew]
    simp_arith [c_k14_right_5, x_call h0, x_call h1, φ_pick, φ_belts]
    refine ⟨hK2.1, by decide, by decide, fun r3 S3 hr3 hK3 => ⟨hK3.1, 1 + r1, 1 + r2, r3, rfl, rfl, rfl, by omega, by omega, by omega, by omega, by omega, fun bs S4 hbl hbo hnd hK4 => ?_⟩⟩
    have k : BOk (1 + r1) (1 + r2) bs := ⟨by omega, by omega, by omega, by omega, by omega, hbo, hnd⟩
    generalize hh : 1 + r1 = h at k hbo
    generalize hw : 1 + r2 = w at k hbo
    have h36 := k.n36
    have hb12 := k.b12
    have hK := ((hK1.trans hK2).trans hK3).trans hK4
    simp_arith [c_k14_right_4, x_make kB]
    refine fun b hb => brd_mk k hb ⟨.inl (by omega), by decide, _, rfl, rfl, ?_⟩
    have em : (h : Int) * (w : Int) = ((h * w : Nat) : Int) := by simp
    rw [em]
    generalize hn : h * w = n at h36
    simp_arith [c_k14_right_3]
    refine ⟨_, rfl, ?_⟩
    refine wLc_pure (fun d => match d with | .str s => .str (List.replicate n s).flatten | _ => .non) (fun _ => true) trivial (fun d hd k1 k0 hk1 hk0 => ?_) (by decide) ?_
    · obtain ⟨c, hc, rfl⟩ := List.mem_map.mp hd
      simp_arith [o_mulS]
      refine ⟨by omega, by omega, by simp, ?_⟩
      have := hk1 rfl
      simpa using this
    rw [List.nil_append, filter_all]
    simp_arith [x_call h2]
    refine ⟨by decide, ?_⟩
    refine wLc_inv (fun i acc S' => Kp a S S' ∧ ∃ ws : List (List Nat), acc = ws.map D.str ∧ ws.length = i ∧ ∀ p ∈ ws, letters p ∧ p.length = n) 0 ⟨hK, [], rfl, rfl, fun p hp => by cases hp⟩ ?_ ?_ ?_
    · rintro j d acc S' hj ⟨hK', ws, rfl, hw', hws⟩
      refine ⟨trivial, fun k1 k0 hk1 hk0 => ?_⟩
      simp_arith [φ_view]
      refine ⟨hK'.1, n, rfl, by omega, fun s S5 hs hsl hK5 => ?_⟩
      refine hk1 _ _ ⟨hK'.trans hK5, ws ++ [s], by rw [List.map_append]; rfl, by rw [List.length_append, hw']; rfl, fun p hp => ?_⟩
      rcases List.mem_append.mp hp with hp | hp
      · exact hws p hp
      · rw [List.mem_singleton.mp hp]; exact ⟨hs, hsl⟩
    · rintro j acc S' hj ⟨hK', ws, rfl, hw', hws⟩
      rw [List.length_map, List.length_range] at hj
      rw [List.length_map, hw']
      unfold lim
      omega
    · rintro acc S5 ⟨hK5, ws, rfl, hw', hws⟩
      rw [List.length_map, List.length_range, Nat.zero_add] at hw'
      refine ⟨trivial, by rw [List.length_map, hw']; decide, ?_⟩
      obtain ⟨pics, ep, hpl, hpo, m1, m2⟩ : ∃ pics : List (List Nat), D.str (List.replicate n [114]).flatten :: D.str (List.replicate n [115]).flatten :: D.str (List.replicate n [116]).flatten :: D.str (List.replicate n [117]).flatten :: D.str (List.replicate n [118]).flatten :: D.str (List.replicate n [119]).flatten :: D.str (List.replicate n [97]).flatten :: D.str (List.replicate n [122]).flatten :: ws.map D.str = pics.map D.str ∧ pics.length ≤ 100 ∧ (∀ p ∈ pics, letters p ∧ p.length = n) ∧ List.replicate n 114 ∈ pics ∧ List.replicate n 115 ∈ pics := by
        refine ⟨([114, 115, 116, 117, 118, 119, 97, 122].map fun c => List.replicate n c) ++ ws, ?_, ?_, ?_, ?_, ?_⟩
        · rw [List.map_append]
          simp only [List.map_cons, List.map_nil, rep_letter, List.cons_append, List.nil_append]
        · rw [List.length_append, hw', List.length_map]; decide
        · intro p hp
          rcases List.mem_append.mp hp with hp | hp
          · obtain ⟨c, hc, rfl⟩ := List.mem_map.mp hp
            refine ⟨fun d hd => ?_, List.length_replicate ..⟩
            rw [List.eq_of_mem_replicate hd]
            clear hd hp
            revert hc
            generalize c = c'
            revert c'
            decide
          · exact hws p hp
        · exact List.mem_append_left _ (List.mem_map.mpr ⟨114, by decide, rfl⟩)
        · exact List.mem_append_left _ (List.mem_map.mpr ⟨115, by decide, rfl⟩)
      rw [ep]
      simp_arith [c_k14_right_2, x_call h3, φ_story]
      refine ⟨hK5.1, bs, n, 10, rfl, by omega, by rw [← hn]; exact hbo, rfl, by decide, fun hs S6 hsl hso hK6 => ?_⟩
      simp_arith [c_k14_right_1, x_call h4, x_call h5]
      refine ⟨by decide, ?_⟩
      refine wFor_inv (fun i ρ S' => Kp a S S' ∧ ∃ x4, ρ = [some (.obj a), some (.tup (bs.map Band.d)), some (.lst (pics.map D.str)), some (histD hs), x4, some (.int h), some (.int w), some (brd h w bs), some (.int n), none]) 0 ⟨hK5.trans hK6, _, rfl⟩ ?_ ?_
      · rintro j d ρ S' hj ⟨hK', x4, rfl⟩
        refine ⟨trivial, fun nx hnx => ?_⟩
        simp_arith [φ_k14_two, φ_k14_other]
        refine ⟨hK'.1, bs, hs, n, rfl, by omega, by rw [← hn]; exact hbo, by omega, rfl, by omega, hso, fun ks S7 hks hK7 => ?_⟩
        rw [← hn] at hpo m1 m2
        refine ⟨h, w, bs, hs, ks, pics, rfl, k, rfl, rfl, hpl, hpo, m1, m2, rfl, ⟨by omega, hso⟩, rfl, hks, ?_⟩
        exact hnx _ _ ⟨hK'.trans hK7, _, rfl⟩
      · rintro ρ S' ⟨hK', x4, rfl⟩
        refine ⟨trivial, ?_⟩
        simp_arith [c_k14_right_0, x_call fa, x_call h6, φ_thin, φ_alike]
        refine ⟨bs, hs, n, rfl, by omega, by rw [← hn]; exact hbo, by omega, rfl, by omega, hso, ?_⟩
        rw [thinL_eq]
        have hs' : HsOk bs (seenS bs hs) := HsOk.sub ⟨by omega, hso⟩ (seenS_sub bs hs).1 (by have := (seenS_sub bs hs).2; omega)
        refine ⟨h, w, bs, hs, seenS bs hs, rfl, k, rfl, ⟨by omega, hso⟩, rfl, hs', ?_⟩
        rw [lastCs_seen, decide_eq_true rfl]
        exact ⟨_, Sub.refl _, q _⟩
theorem ok_k14_law (h0 : T.Fn f0 φ_ask) (h1 : T.Fn f1 φ_purse) (h2 : T.Fn f2 φ_cell) : Ok T n_k14_law (b_k14_law f0 f1 f2) φ_law := by
  intro ds S Q E hφ
  match ds, hφ with
  | [x], hh =>
    obtain ⟨ns, rfl, hn, q⟩ := hh
    simp_arith [b_k14_law, n_k14_law, List.length_map]
    obtain ⟨t0, t1⟩ := times (k := 2) (l := (ns.length : Int)) (m := 10) (by decide) (by decide) (by decide) (by decide)
    generalize (if (if (ns.length : Int) < 10 then (ns.length : Int) else 10) > 2 then (if (ns.length : Int) < 10 then (ns.length : Int) else 10) else 2) = r at t0 t1
    refine ⟨by constructor <;> omega, ?_⟩
    refine wLc_inv (fun i acc S' => acc = List.replicate i (.bl true)) 0 rfl ?_ ?_ ?_
    · rintro j d acc S' hj rfl
      rw [List.getElem?_map] at hj
      cases hj' : (List.range r.toNat)[j]? with
      | none => rw [hj'] at hj; cases hj
      | some j' =>
        rw [hj'] at hj
        cases hj
        have hj2 : j' < r.toNat := List.mem_range.mp (List.mem_of_getElem? hj')
        refine ⟨trivial, fun k1 k0 hk1 hk0 => ?_⟩
        simp_arith [x_call h0, x_call h1, x_call h2, φ_cell, φ_purse, φ_ask]
        refine ⟨ns, rfl, hn, by omega, by omega, fun z b S2 hb hps _ => ⟨hps, fun S3 => hk1 _ _ ?_⟩⟩
        rw [List.replicate_succ']
    · rintro j acc S' hj rfl
      rw [List.length_map, List.length_range] at hj
      rw [List.length_replicate]
      unfold lim
      omega
    · rintro acc S' rfl
      refine ⟨trivial, List.replicate _ true, by rw [List.map_replicate], ?_⟩
      rw [all_reps]
      exact ⟨_, Sub.refl _, q _⟩
end
end G
namespace G
open PySem L2
def top (i : Nat) : Stmt := PySem.Challenge.pw_lastcoat_k14_whole_alike_from_every_pict.main.body.getD i (.Pass ⟨0, 0, 0, 0⟩)
abbrev s_law_pick : Stmt := top 49
def N_law_pick : List Str := ["_law_purse", "_law_many", "_law_state", "_law_taken"]
def p_law_pick : List Str := ["_law_purse", "_law_many"]
theorem d_law_pick : defOk N_law_pick p_law_pick b_pick s_law_pick = true := by decide +kernel
abbrev s_law_calls : Stmt := top 50
def N_law_calls : List Str := ["_law_purse", "_law_many", "_law_own", "_law_letters", "_law_stem", "_law_first", "_law_step", "_law_cut", "_law_begin", "_law_k"]
def p_law_calls : List Str := ["_law_purse", "_law_many"]
theorem d_law_calls : defOk N_law_calls p_law_calls (b_calls "_law_pick") s_law_calls = true := by decide +kernel
abbrev s_law_area : Stmt := top 51
def N_law_area : List Str := ["_law_purse", "_law_tall", "_law_broad", "_law_found", "_law_way_here", "_law_size", "_law_first", "_law_top", "_law_left", "_law_low", "_law_right_here", "_law_spot"]
def p_law_area : List Str := ["_law_purse", "_law_tall", "_law_broad"]
theorem d_law_area : defOk N_law_area p_law_area (b_area "_law_pick") s_law_area = true := by decide +kernel
abbrev s_law_pots : Stmt := top 52
def N_law_pots : List Str := ["_law_purse", "_law_upto", "_law_letters", "_law_many", "_law_first", "_law_k"]
def p_law_pots : List Str := ["_law_purse", "_law_upto"]
theorem d_law_pots : defOk N_law_pots p_law_pots (b_dpots "_law_pick") s_law_pots = true := by decide +kernel
abbrev s_law_belts : Stmt := top 53
def N_law_belts : List Str := ["_law_purse", "_law_tall", "_law_broad", "_law_many", "_law_found", "_law_word", "_law_spots", "_law_shades"]
def p_law_belts : List Str := ["_law_purse", "_law_tall", "_law_broad", "_law_many"]
theorem d_law_belts : defOk N_law_belts p_law_belts (b_belts "_law_calls" "_law_area" "_law_pots" "_law_pick") s_law_belts = true := by decide +kernel
abbrev s_law_view : Stmt := top 54
def N_law_view : List Str := ["_law_purse", "_law_size", "_law_spot"]
def p_law_view : List Str := ["_law_purse", "_law_size"]
theorem d_law_view : defOk N_law_view p_law_view (b_view "_law_pick") s_law_view = true := by decide +kernel
abbrev s_law_story : Stmt := top 55
def N_law_story : List Str := ["_law_purse", "_law_strips", "_law_upto", "_law_found", "_law_turn", "_law_word", "_law_spots", "_law_colours", "_law_cost"]
def p_law_story : List Str := ["_law_purse", "_law_strips", "_law_upto"]
theorem d_law_story : defOk N_law_story p_law_story (b_story "_law_pick") s_law_story = true := by decide +kernel
abbrev s_law_spots_of : Stmt := top 56
def N_law_spots_of : List Str := ["_law_strips", "_law_word", "_law_strip"]
def p_law_spots_of : List Str := ["_law_strips", "_law_word"]
theorem d_law_spots_of : defOk N_law_spots_of p_law_spots_of b_spots_of s_law_spots_of = true := by decide +kernel
abbrev s_law_done : Stmt := top 57
def N_law_done : List Str := ["_law_strips", "_law_look", "_law_tale", "_law_now", "_law_word", "_law_shade", "_law_spot"]
def p_law_done : List Str := ["_law_strips", "_law_look", "_law_tale"]
theorem d_law_done : defOk N_law_done p_law_done (b_done "_law_spots_of") s_law_done = true := by decide +kernel
abbrev s_check_board : Stmt := top 31
def N_check_board : List Str := ["board"]
def p_check_board : List Str := ["board"]
theorem d_check_board : defOk N_check_board p_check_board b_check_board s_check_board = true := by decide +kernel
abbrev s_are_letters : Stmt := top 18
def N_are_letters : List Str := ["thing", "most", "sign"]
def p_are_letters : List Str := ["thing", "most"]
theorem d_are_letters : defOk N_are_letters p_are_letters b_are_letters s_are_letters = true := by decide +kernel
abbrev s_is_colour : Stmt := top 19
def N_is_colour : List Str := ["thing"]
def p_is_colour : List Str := ["thing"]
theorem d_is_colour : defOk N_is_colour p_is_colour b_is_colour s_is_colour = true := by decide +kernel
abbrev s_are_colours : Stmt := top 34
def N_are_colours : List Str := ["thing", "sign"]
def p_are_colours : List Str := ["thing"]
theorem d_are_colours : defOk N_are_colours p_are_colours b_are_colours s_are_colours = true := by decide +kernel
abbrev s_how_many : Stmt := top 33
def N_how_many : List Str := ["board"]
def p_how_many : List Str := ["board"]
theorem d_how_many : defOk N_how_many p_how_many b_how_many s_how_many = true := by decide +kernel
abbrev s_is_picture : Stmt := top 35
def N_is_picture : List Str := ["board", "thing"]
def p_is_picture : List Str := ["board", "thing"]
theorem d_is_picture : defOk N_is_picture p_is_picture b_is_picture s_is_picture = true := by decide +kernel
abbrev s_check_picture : Stmt := top 36
def N_check_picture : List Str := ["board", "picture"]
def p_check_picture : List Str := ["board", "picture"]
theorem d_check_picture : defOk N_check_picture p_check_picture b_check_picture s_check_picture = true := by decide +kernel
abbrev s_is_stroke : Stmt := top 39
def N_is_stroke : List Str := ["board", "thing", "name", "colour", "own", "cells", "pots", "cost", "part"]
def p_is_stroke : List Str := ["board", "thing"]
theorem d_is_stroke : defOk N_is_stroke p_is_stroke b_is_stroke s_is_stroke = true := by decide +kernel
abbrev s_check_history : Stmt := top 40
def N_check_history : List Str := ["board", "history", "number", "stroke"]
def p_check_history : List Str := ["board", "history"]
theorem d_check_history : defOk N_check_history p_check_history b_check_history s_check_history = true := by decide +kernel
abbrev s_last_numbers : Stmt := top 41
def N_last_numbers : List Str := ["board", "history", "where", "found", "number", "cell", "name", "colour", "cells", "pots", "cost"]
def p_last_numbers : List Str := ["board", "history"]
theorem d_last_numbers : defOk N_last_numbers p_last_numbers b_last_numbers s_last_numbers = true := by decide +kernel
abbrev s_last_colours : Stmt := top 42
def N_last_colours : List Str := ["board", "history", "number"]
def p_last_colours : List Str := ["board", "history"]
theorem d_last_colours : defOk N_last_colours p_last_colours b_last_colours s_last_colours = true := by decide +kernel
abbrev s_painted : Stmt := top 43
def N_painted : List Str := ["board", "picture", "history", "sign", "colour"]
def p_painted : List Str := ["board", "picture", "history"]
theorem d_painted : defOk N_painted p_painted b_painted s_painted = true := by decide +kernel
abbrev s_mark : Stmt := top 44
def N_mark : List Str := ["board", "history"]
def p_mark : List Str := ["board", "history"]
theorem d_mark : defOk N_mark p_mark b_mark s_mark = true := by decide +kernel
abbrev s_alike : Stmt := top 45
def N_alike : List Str := ["board", "one", "other"]
def p_alike : List Str := ["board", "one", "other"]
theorem d_alike : defOk N_alike p_alike b_alike s_alike = true := by decide +kernel
abbrev s_law_two_right : Stmt := top 60
def N_law_two_right : List Str := ["_law_canvas", "_law_strips", "_law_looks", "_law_first", "_law_second", "_law_due", "_law_told", "_law_look", "_law_part"]
def p_law_two_right : List Str := ["_law_canvas", "_law_strips", "_law_looks", "_law_first", "_law_second"]
theorem d_law_two_right : defOk N_law_two_right p_law_two_right (b_k14_two "_law_done") s_law_two_right = true := by decide +kernel
abbrev s_law_thin : Stmt := top 59
def N_law_thin : List Str := ["_law_strips", "_law_tale", "_law_found", "_law_gone", "_law_word", "_law_shade", "_law_spots", "_law_spot"]
def p_law_thin : List Str := ["_law_strips", "_law_tale"]
theorem d_law_thin : defOk N_law_thin p_law_thin (b_thin "_law_spots_of") s_law_thin = true := by decide +kernel
abbrev s_law_other : Stmt := top 58
def N_law_other : List Str := ["_law_purse", "_law_strips", "_law_tale", "_law_fresh", "_law_way_here", "_law_at", "_law_to", "_law_both", "_law_shades", "_law_stroke", "_law_strip"]
def p_law_other : List Str := ["_law_purse", "_law_strips", "_law_tale"]
theorem d_law_other : defOk N_law_other p_law_other (b_k14_other "_law_pick" "_law_story" "_law_thin") s_law_other = true := by decide +kernel
abbrev s_is_whole : Stmt := top 15
def N_is_whole : List Str := ["thing"]
def p_is_whole : List Str := ["thing"]
theorem d_is_whole : defOk N_is_whole p_is_whole b_is_whole s_is_whole = true := by decide +kernel
abbrev s_is_within : Stmt := top 16
def N_is_within : List Str := ["thing", "low", "high"]
def p_is_within : List Str := ["thing", "low", "high"]
theorem d_is_within : defOk N_is_within p_is_within b_is_within s_is_within = true := by decide +kernel
abbrev s_is_name : Stmt := top 21
def N_is_name : List Str := ["thing"]
def p_is_name : List Str := ["thing"]
theorem d_is_name : defOk N_is_name p_is_name b_is_name s_is_name = true := by decide +kernel
abbrev s_is_rising : Stmt := top 17
def N_is_rising : List Str := ["row", "one", "other"]
def p_is_rising : List Str := ["row"]
theorem d_is_rising : defOk N_is_rising p_is_rising b_is_rising s_is_rising = true := by decide +kernel
abbrev s_are_cells : Stmt := top 26
def N_are_cells : List Str := ["thing", "many", "cell"]
def p_are_cells : List Str := ["thing", "many"]
theorem d_are_cells : defOk N_are_cells p_are_cells b_are_cells s_are_cells = true := by decide +kernel
abbrev s_are_pots : Stmt := top 20
def N_are_pots : List Str := ["thing"]
def p_are_pots : List Str := ["thing"]
theorem d_are_pots : defOk N_are_pots p_are_pots b_are_pots s_are_pots = true := by decide +kernel
abbrev s_is_band : Stmt := top 27
def N_is_band : List Str := ["thing", "many", "name", "cells", "pots", "cost"]
def p_is_band : List Str := ["thing", "many"]
theorem d_is_band : defOk N_is_band p_is_band b_is_band s_is_band = true := by decide +kernel
abbrev s_check_bands : Stmt := top 28
def N_check_bands : List Str := ["bands", "many", "known", "number", "band"]
def p_check_bands : List Str := ["bands", "many"]
theorem d_check_bands : defOk N_check_bands p_check_bands b_check_bands s_check_bands = true := by decide +kernel
abbrev s_Board___init__ : Stmt := inClass (top 30) 0
def N_Board___init__ : List Str := ["self", "high", "wide", "bands"]
def p_Board___init__ : List Str := ["self", "high", "wide", "bands"]
theorem d_Board___init__ : defOk N_Board___init__ p_Board___init__ b_Board_init s_Board___init__ = true := by decide +kernel
abbrev s_law_right : Stmt := top 61
def N_law_right : List Str := ["_law_purse", "_law_strips", "_law_looks", "_law_tale", "_law_turn", "_law_tall", "_law_broad", "_law_canvas", "_law_size", "_law_shade"]
def p_law_right : List Str := ["_law_purse"]
theorem d_law_right : defOk N_law_right p_law_right (b_k14_right "_law_pick" "_law_belts" "_law_view" "_law_story" "_law_two_right" "_law_other" "_law_thin") s_law_right = true := by decide +kernel
abbrev s_law_digits : Stmt := top 48
def N_law_digits : List Str := ["_law_cell_here"]
def p_law_digits : List Str := ["_law_cell_here"]
theorem d_law_digits : defOk N_law_digits p_law_digits b_purse s_law_digits = true := by decide +kernel
abbrev s_law_cell : Stmt := top 47
def N_law_cell : List Str := ["_law_script", "_law_k", "_law_state", "_law_cell_here"]
def p_law_cell : List Str := ["_law_script", "_law_k"]
theorem d_law_cell : defOk N_law_cell p_law_cell b_cell s_law_cell = true := by decide +kernel
abbrev s_law : Stmt := top 62
def N_law : List Str := ["_law_script", "_law_k"]
def p_law : List Str := ["_law_script"]
theorem d_law : defOk N_law p_law (b_k14_law "_law_right" "_law_digits" "_law_cell") s_law = true := by decide +kernel
theorem ba_law_pick : BindAll "_law_pick" "_law_pick" s_law_pick p_law_pick := fun _ _ _ _ _ _ us hl => match us, hl with | [_, _], _ => rfl
theorem ba_law_calls : BindAll "_law_calls" "_law_calls" s_law_calls p_law_calls := fun _ _ _ _ _ _ us hl => match us, hl with | [_, _], _ => rfl
theorem ba_law_area : BindAll "_law_area" "_law_area" s_law_area p_law_area := fun _ _ _ _ _ _ us hl => match us, hl with | [_, _, _], _ => rfl
theorem ba_law_pots : BindAll "_law_pots" "_law_pots" s_law_pots p_law_pots := fun _ _ _ _ _ _ us hl => match us, hl with | [_, _], _ => rfl
theorem ba_law_belts : BindAll "_law_belts" "_law_belts" s_law_belts p_law_belts := fun _ _ _ _ _ _ us hl => match us, hl with | [_, _, _, _], _ => rfl
theorem ba_law_view : BindAll "_law_view" "_law_view" s_law_view p_law_view := fun _ _ _ _ _ _ us hl => match us, hl with | [_, _], _ => rfl
theorem ba_law_story : BindAll "_law_story" "_law_story" s_law_story p_law_story := fun _ _ _ _ _ _ us hl => match us, hl with | [_, _, _], _ => rfl
theorem ba_law_spots_of : BindAll "_law_spots_of" "_law_spots_of" s_law_spots_of p_law_spots_of := fun _ _ _ _ _ _ us hl => match us, hl with | [_, _], _ => rfl
theorem ba_law_done : BindAll "_law_done" "_law_done" s_law_done p_law_done := fun _ _ _ _ _ _ us hl => match us, hl with | [_, _, _], _ => rfl
theorem ba_check_board : BindAll "check_board" "check_board" s_check_board p_check_board := fun _ _ _ _ _ _ us hl => match us, hl with | [_], _ => rfl
theorem ba_are_letters : BindAll "are_letters" "are_letters" s_are_letters p_are_letters := fun _ _ _ _ _ _ us hl => match us, hl with | [_, _], _ => rfl
theorem ba_is_colour : BindAll "is_colour" "is_colour" s_is_colour p_is_colour := fun _ _ _ _ _ _ us hl => match us, hl with | [_], _ => rfl
theorem ba_are_colours : BindAll "are_colours" "are_colours" s_are_colours p_are_colours := fun _ _ _ _ _ _ us hl => match us, hl with | [_], _ => rfl
theorem ba_how_many : BindAll "how_many" "how_many" s_how_many p_how_many := fun _ _ _ _ _ _ us hl => match us, hl with | [_], _ => rfl
theorem ba_is_picture : BindAll "is_picture" "is_picture" s_is_picture p_is_picture := fun _ _ _ _ _ _ us hl => match us, hl with | [_, _], _ => rfl
theorem ba_check_picture : BindAll "check_picture" "check_picture" s_check_picture p_check_picture := fun _ _ _ _ _ _ us hl => match us, hl with | [_, _], _ => rfl
theorem ba_is_stroke : BindAll "is_stroke" "is_stroke" s_is_stroke p_is_stroke := fun _ _ _ _ _ _ us hl => match us, hl with | [_, _], _ => rfl
theorem ba_check_history : BindAll "check_history" "check_history" s_check_history p_check_history := fun _ _ _ _ _ _ us hl => match us, hl with | [_, _], _ => rfl
theorem ba_last_numbers : BindAll "last_numbers" "last_numbers" s_last_numbers p_last_numbers := fun _ _ _ _ _ _ us hl => match us, hl with | [_, _], _ => rfl
theorem ba_last_colours : BindAll "last_colours" "last_colours" s_last_colours p_last_colours := fun _ _ _ _ _ _ us hl => match us, hl with | [_, _], _ => rfl
theorem ba_painted : BindAll "painted" "painted" s_painted p_painted := fun _ _ _ _ _ _ us hl => match us, hl with | [_, _, _], _ => rfl
theorem ba_mark : BindAll "mark" "mark" s_mark p_mark := fun _ _ _ _ _ _ us hl => match us, hl with | [_, _], _ => rfl
theorem ba_alike : BindAll "alike" "alike" s_alike p_alike := fun _ _ _ _ _ _ us hl => match us, hl with | [_, _, _], _ => rfl
theorem ba_law_two_right : BindAll "_law_two_right" "_law_two_right" s_law_two_right p_law_two_right := fun _ _ _ _ _ _ us hl => match us, hl with | [_, _, _, _, _], _ => rfl
theorem ba_law_thin : BindAll "_law_thin" "_law_thin" s_law_thin p_law_thin := fun _ _ _ _ _ _ us hl => match us, hl with | [_, _], _ => rfl
theorem ba_law_other : BindAll "_law_other" "_law_other" s_law_other p_law_other := fun _ _ _ _ _ _ us hl => match us, hl with | [_, _, _], _ => rfl
theorem ba_is_whole : BindAll "is_whole" "is_whole" s_is_whole p_is_whole := fun _ _ _ _ _ _ us hl => match us, hl with | [_], _ => rfl
theorem ba_is_within : BindAll "is_within" "is_within" s_is_within p_is_within := fun _ _ _ _ _ _ us hl => match us, hl with | [_, _, _], _ => rfl
theorem ba_is_name : BindAll "is_name" "is_name" s_is_name p_is_name := fun _ _ _ _ _ _ us hl => match us, hl with | [_], _ => rfl
theorem ba_is_rising : BindAll "is_rising" "is_rising" s_is_rising p_is_rising := fun _ _ _ _ _ _ us hl => match us, hl with | [_], _ => rfl
theorem ba_are_cells : BindAll "are_cells" "are_cells" s_are_cells p_are_cells := fun _ _ _ _ _ _ us hl => match us, hl with | [_, _], _ => rfl
theorem ba_are_pots : BindAll "are_pots" "are_pots" s_are_pots p_are_pots := fun _ _ _ _ _ _ us hl => match us, hl with | [_], _ => rfl
theorem ba_is_band : BindAll "is_band" "is_band" s_is_band p_is_band := fun _ _ _ _ _ _ us hl => match us, hl with | [_, _], _ => rfl
theorem ba_check_bands : BindAll "check_bands" "check_bands" s_check_bands p_check_bands := fun _ _ _ _ _ _ us hl => match us, hl with | [_, _], _ => rfl
theorem ba_law_right : BindAll "_law_right" "_law_right" s_law_right p_law_right := fun _ _ _ _ _ _ us hl => match us, hl with | [_], _ => rfl
theorem ba_law_digits : BindAll "_law_digits" "_law_digits" s_law_digits p_law_digits := fun _ _ _ _ _ _ us hl => match us, hl with | [_], _ => rfl
theorem ba_law_cell : BindAll "_law_cell" "_law_cell" s_law_cell p_law_cell := fun _ _ _ _ _ _ us hl => match us, hl with | [_, _], _ => rfl
theorem ba_law : BindAll "law" "law" s_law p_law := fun _ _ _ _ _ _ us hl => match us, hl with | [_], _ => rfl
theorem bk_0 : BindKw "alike" "alike" s_alike p_alike 0 ["other", "one", "board"] [2, 1, 0] := fun _ _ _ _ _ _ us ws hu hw => match us, hu, ws, hw with | [], _, [_, _, _], _ => rfl
def bse : Base where
  con := [("LETTERS", (.str abc)), ("MOST_STROKES", (.int 60)), ("MOST_SIDE", (.int 6)), ("MOST_BANDS", (.int 12)), ("MOST_COST", (.int 9)), ("MOST_NAME", (.int 6)), ("MOST_POTS", (.int 6))]
  flds := [("Board", ["high", "wide", "bands"])]
  dfs := []
  kw := [(("alike", 0, ["other", "one", "board"]), [.inl 2, .inl 1, .inl 0])]
theorem hl_law_pick : ∀ ds S Q E, φ_pick ds S Q E → ds.length = p_law_pick.length := by
  intro ds S Q E h
  unfold φ_pick at h
  split at h <;> first | rfl | exact h.elim
theorem hl_law_calls : ∀ ds S Q E, φ_calls ds S Q E → ds.length = p_law_calls.length := by
  intro ds S Q E h
  unfold φ_calls at h
  split at h <;> first | rfl | exact h.elim
theorem hl_law_area : ∀ ds S Q E, φ_area ds S Q E → ds.length = p_law_area.length := by
  intro ds S Q E h
  unfold φ_area at h
  split at h <;> first | rfl | exact h.elim
theorem hl_law_pots : ∀ ds S Q E, φ_dpots ds S Q E → ds.length = p_law_pots.length := by
  intro ds S Q E h
  unfold φ_dpots at h
  split at h <;> first | rfl | exact h.elim
theorem hl_law_belts : ∀ ds S Q E, φ_belts ds S Q E → ds.length = p_law_belts.length := by
  intro ds S Q E h
  unfold φ_belts at h
  split at h <;> first | rfl | exact h.elim
theorem hl_law_view : ∀ ds S Q E, φ_view ds S Q E → ds.length = p_law_view.length := by
  intro ds S Q E h
  unfold φ_view at h
  split at h <;> first | rfl | exact h.elim
theorem hl_law_story : ∀ ds S Q E, φ_story ds S Q E → ds.length = p_law_story.length := by
  intro ds S Q E h
  unfold φ_story at h
  split at h <;> first | rfl | exact h.elim
theorem hl_law_spots_of : ∀ ds S Q E, φ_spots_of ds S Q E → ds.length = p_law_spots_of.length := by
  intro ds S Q E h
  unfold φ_spots_of at h
  split at h <;> first | rfl | exact h.elim
theorem hl_law_done : ∀ ds S Q E, φ_done ds S Q E → ds.length = p_law_done.length := by
  intro ds S Q E h
  unfold φ_done at h
  split at h <;> first | rfl | exact h.elim
theorem hl_check_board : ∀ ds S Q E, φ_check_board ds S Q E → ds.length = p_check_board.length := by
  intro ds S Q E h
  unfold φ_check_board at h
  split at h <;> first | rfl | exact h.elim
theorem hl_are_letters : ∀ ds S Q E, φ_are_letters ds S Q E → ds.length = p_are_letters.length := by
  intro ds S Q E h
  unfold φ_are_letters at h
  split at h <;> first | rfl | exact h.elim
theorem hl_is_colour : ∀ ds S Q E, (φ_lett 1) ds S Q E → ds.length = p_is_colour.length := by
  intro ds S Q E h
  unfold φ_lett at h
  split at h <;> first | rfl | exact h.elim
theorem hl_are_colours : ∀ ds S Q E, φ_are_colours ds S Q E → ds.length = p_are_colours.length := by
  intro ds S Q E h
  unfold φ_are_colours at h
  split at h <;> first | rfl | exact h.elim
theorem hl_how_many : ∀ ds S Q E, φ_how_many ds S Q E → ds.length = p_how_many.length := by
  intro ds S Q E h
  unfold φ_how_many at h
  split at h <;> first | rfl | exact h.elim
theorem hl_is_picture : ∀ ds S Q E, φ_is_picture ds S Q E → ds.length = p_is_picture.length := by
  intro ds S Q E h
  unfold φ_is_picture at h
  split at h <;> first | rfl | exact h.elim
theorem hl_check_picture : ∀ ds S Q E, φ_check_picture ds S Q E → ds.length = p_check_picture.length := by
  intro ds S Q E h
  unfold φ_check_picture at h
  split at h <;> first | rfl | exact h.elim
theorem hl_is_stroke : ∀ ds S Q E, φ_is_stroke ds S Q E → ds.length = p_is_stroke.length := by
  intro ds S Q E h
  unfold φ_is_stroke at h
  split at h <;> first | rfl | exact h.elim
theorem hl_check_history : ∀ ds S Q E, φ_check_history ds S Q E → ds.length = p_check_history.length := by
  intro ds S Q E h
  unfold φ_check_history at h
  split at h <;> first | rfl | exact h.elim
theorem hl_last_numbers : ∀ ds S Q E, φ_last_numbers ds S Q E → ds.length = p_last_numbers.length := by
  intro ds S Q E h
  unfold φ_last_numbers at h
  split at h <;> first | rfl | exact h.elim
theorem hl_last_colours : ∀ ds S Q E, φ_last_colours ds S Q E → ds.length = p_last_colours.length := by
  intro ds S Q E h
  unfold φ_last_colours at h
  split at h <;> first | rfl | exact h.elim
theorem hl_painted : ∀ ds S Q E, φ_painted ds S Q E → ds.length = p_painted.length := by
  intro ds S Q E h
  unfold φ_painted at h
  split at h <;> first | rfl | exact h.elim
theorem hl_mark : ∀ ds S Q E, φ_mark ds S Q E → ds.length = p_mark.length := by
  intro ds S Q E h
  unfold φ_mark at h
  split at h <;> first | rfl | exact h.elim
theorem hl_alike : ∀ ds S Q E, φ_alike ds S Q E → ds.length = p_alike.length := by
  intro ds S Q E h
  unfold φ_alike at h
  split at h <;> first | rfl | exact h.elim
theorem hl_law_two_right : ∀ ds S Q E, φ_k14_two ds S Q E → ds.length = p_law_two_right.length := by
  intro ds S Q E h
  unfold φ_k14_two at h
  split at h <;> first | rfl | exact h.elim
theorem hl_law_thin : ∀ ds S Q E, φ_thin ds S Q E → ds.length = p_law_thin.length := by
  intro ds S Q E h
  unfold φ_thin at h
  split at h <;> first | rfl | exact h.elim
theorem hl_law_other : ∀ ds S Q E, φ_k14_other ds S Q E → ds.length = p_law_other.length := by
  intro ds S Q E h
  unfold φ_k14_other at h
  split at h <;> first | rfl | exact h.elim
theorem hl_is_whole : ∀ ds S Q E, φ_is_whole ds S Q E → ds.length = p_is_whole.length := by
  intro ds S Q E h
  unfold φ_is_whole at h
  split at h <;> first | rfl | exact h.elim
theorem hl_is_within : ∀ ds S Q E, φ_is_within ds S Q E → ds.length = p_is_within.length := by
  intro ds S Q E h
  unfold φ_is_within at h
  split at h <;> first | rfl | exact h.elim
theorem hl_is_name : ∀ ds S Q E, (φ_lett 6) ds S Q E → ds.length = p_is_name.length := by
  intro ds S Q E h
  unfold φ_lett at h
  split at h <;> first | rfl | exact h.elim
theorem hl_is_rising : ∀ ds S Q E, φ_is_rising ds S Q E → ds.length = p_is_rising.length := by
  intro ds S Q E h
  unfold φ_is_rising at h
  split at h <;> first | rfl | exact h.elim
theorem hl_are_cells : ∀ ds S Q E, φ_are_cells ds S Q E → ds.length = p_are_cells.length := by
  intro ds S Q E h
  unfold φ_are_cells at h
  split at h <;> first | rfl | exact h.elim
theorem hl_are_pots : ∀ ds S Q E, φ_are_pots ds S Q E → ds.length = p_are_pots.length := by
  intro ds S Q E h
  unfold φ_are_pots at h
  split at h <;> first | rfl | exact h.elim
theorem hl_is_band : ∀ ds S Q E, φ_is_band ds S Q E → ds.length = p_is_band.length := by
  intro ds S Q E h
  unfold φ_is_band at h
  split at h <;> first | rfl | exact h.elim
theorem hl_check_bands : ∀ ds S Q E, φ_check_bands ds S Q E → ds.length = p_check_bands.length := by
  intro ds S Q E h
  unfold φ_check_bands at h
  split at h <;> first | rfl | exact h.elim
theorem hl_Board___init__ : ∀ ds S Q E, φ_Board_init ds S Q E → ds.length = p_Board___init__.length := by
  intro ds S Q E h
  unfold φ_Board_init at h
  split at h <;> first | rfl | exact h.elim
theorem hl_law_right : ∀ ds S Q E, φ_ask ds S Q E → ds.length = p_law_right.length := by
  intro ds S Q E h
  unfold φ_ask at h
  split at h <;> first | rfl | exact h.elim
theorem hl_law_digits : ∀ ds S Q E, φ_purse ds S Q E → ds.length = p_law_digits.length := by
  intro ds S Q E h
  unfold φ_purse at h
  split at h <;> first | rfl | exact h.elim
theorem hl_law_cell : ∀ ds S Q E, φ_cell ds S Q E → ds.length = p_law_cell.length := by
  intro ds S Q E h
  unfold φ_cell at h
  split at h <;> first | rfl | exact h.elim
theorem hl_law : ∀ ds S Q E, φ_law ds S Q E → ds.length = p_law.length := by
  intro ds S Q E h
  unfold φ_law at h
  split at h <;> first | rfl | exact h.elim
theorem all_j {P : Program} {w : World} {K : PySem.W.Frag} {mg : Str → Option Value} {fa : Addr} (hfa : mg "law" = some (.ref fa)) (bf : BF bse K mg) (F_law_pick : FactFn K mg "_law_pick" s_law_pick) (F_law_calls : FactFn K mg "_law_calls" s_law_calls) (F_law_area : FactFn K mg "_law_area" s_law_area) (F_law_pots : FactFn K mg "_law_pots" s_law_pots) (F_law_belts : FactFn K mg "_law_belts" s_law_belts) (F_law_view : FactFn K mg "_law_view" s_law_view) (F_law_story : FactFn K mg "_law_story" s_law_story) (F_law_spots_of : FactFn K mg "_law_spots_of" s_law_spots_of) (F_law_done : FactFn K mg "_law_done" s_law_done) (F_check_board : FactFn K mg "check_board" s_check_board) (F_are_letters : FactFn K mg "are_letters" s_are_letters) (F_is_colour : FactFn K mg "is_colour" s_is_colour) (F_are_colours : FactFn K mg "are_colours" s_are_colours) (F_how_many : FactFn K mg "how_many" s_how_many) (F_is_picture : FactFn K mg "is_picture" s_is_picture) (F_check_picture : FactFn K mg "check_picture" s_check_picture) (F_is_stroke : FactFn K mg "is_stroke" s_is_stroke) (F_check_history : FactFn K mg "check_history" s_check_history) (F_last_numbers : FactFn K mg "last_numbers" s_last_numbers) (F_last_colours : FactFn K mg "last_colours" s_last_colours) (F_painted : FactFn K mg "painted" s_painted) (F_mark : FactFn K mg "mark" s_mark) (F_alike : FactFn K mg "alike" s_alike) (F_law_two_right : FactFn K mg "_law_two_right" s_law_two_right) (F_law_thin : FactFn K mg "_law_thin" s_law_thin) (F_law_other : FactFn K mg "_law_other" s_law_other) (F_is_whole : FactFn K mg "is_whole" s_is_whole) (F_is_within : FactFn K mg "is_within" s_is_within) (F_is_name : FactFn K mg "is_name" s_is_name) (F_is_rising : FactFn K mg "is_rising" s_is_rising) (F_are_cells : FactFn K mg "are_cells" s_are_cells) (F_are_pots : FactFn K mg "are_pots" s_are_pots) (F_is_band : FactFn K mg "is_band" s_is_band) (F_check_bands : FactFn K mg "check_bands" s_check_bands) (F_Board___init__ : FactMeD K mg "Board" ini "Board.__init__" s_Board___init__) (F_law_right : FactFn K mg "_law_right" s_law_right) (F_law_digits : FactFn K mg "_law_digits" s_law_digits) (F_law_cell : FactFn K mg "_law_cell" s_law_cell) (F_law : FactFn K mg "law" s_law) (M_Board : ∀ c, mg "Board" = some (.ref c) → PySem.W.makesIn K c = true ∧ PySem.W.keepIn K (.ref c) = true) :
    ∃ fd : FuncData, (∀ (s : Shared) (v : Value), BindsTo s fd ⟨[v], []⟩ [("_law_script", v)]) ∧ ∀ base : Heap, FnG P w K mg base (L2.CX P w) 18 fa fd ["_law_script"] (spOf K mg φ_law) := by
  obtain ⟨a_law_pick, fd_law_pick, m_law_pick, F_law_pick⟩ := F_law_pick
  obtain ⟨a_law_calls, fd_law_calls, m_law_calls, F_law_calls⟩ := F_law_calls
  obtain ⟨a_law_area, fd_law_area, m_law_area, F_law_area⟩ := F_law_area
  obtain ⟨a_law_pots, fd_law_pots, m_law_pots, F_law_pots⟩ := F_law_pots
  obtain ⟨a_law_belts, fd_law_belts, m_law_belts, F_law_belts⟩ := F_law_belts
  obtain ⟨a_law_view, fd_law_view, m_law_view, F_law_view⟩ := F_law_view
  obtain ⟨a_law_story, fd_law_story, m_law_story, F_law_story⟩ := F_law_story
  obtain ⟨a_law_spots_of, fd_law_spots_of, m_law_spots_of, F_law_spots_of⟩ := F_law_spots_of
  obtain ⟨a_law_done, fd_law_done, m_law_done, F_law_done⟩ := F_law_done
  obtain ⟨a_check_board, fd_check_board, m_check_board, F_check_board⟩ := F_check_board
  obtain ⟨a_are_letters, fd_are_letters, m_are_letters, F_are_letters⟩ := F_are_letters
  obtain ⟨a_is_colour, fd_is_colour, m_is_colour, F_is_colour⟩ := F_is_colour
  obtain ⟨a_are_colours, fd_are_colours, m_are_colours, F_are_colours⟩ := F_are_colours
  obtain ⟨a_how_many, fd_how_many, m_how_many, F_how_many⟩ := F_how_many
  obtain ⟨a_is_picture, fd_is_picture, m_is_picture, F_is_picture⟩ := F_is_picture
  obtain ⟨a_check_picture, fd_check_picture, m_check_picture, F_check_picture⟩ := F_check_picture
  obtain ⟨a_is_stroke, fd_is_stroke, m_is_stroke, F_is_stroke⟩ := F_is_stroke
  obtain ⟨a_check_history, fd_check_history, m_check_history, F_check_history⟩ := F_check_history
  obtain ⟨a_last_numbers, fd_last_numbers, m_last_numbers, F_last_numbers⟩ := F_last_numbers
  obtain ⟨a_last_colours, fd_last_colours, m_last_colours, F_last_colours⟩ := F_last_colours
  obtain ⟨a_painted, fd_painted, m_painted, F_painted⟩ := F_painted
  obtain ⟨a_mark, fd_mark, m_mark, F_mark⟩ := F_mark
  obtain ⟨a_alike, fd_alike, m_alike, F_alike⟩ := F_alike
  obtain ⟨a_law_two_right, fd_law_two_right, m_law_two_right, F_law_two_right⟩ := F_law_two_right
  obtain ⟨a_law_thin, fd_law_thin, m_law_thin, F_law_thin⟩ := F_law_thin
  obtain ⟨a_law_other, fd_law_other, m_law_other, F_law_other⟩ := F_law_other
  obtain ⟨a_is_whole, fd_is_whole, m_is_whole, F_is_whole⟩ := F_is_whole
  obtain ⟨a_is_within, fd_is_within, m_is_within, F_is_within⟩ := F_is_within
  obtain ⟨a_is_name, fd_is_name, m_is_name, F_is_name⟩ := F_is_name
  obtain ⟨a_is_rising, fd_is_rising, m_is_rising, F_is_rising⟩ := F_is_rising
  obtain ⟨a_are_cells, fd_are_cells, m_are_cells, F_are_cells⟩ := F_are_cells
  obtain ⟨a_are_pots, fd_are_pots, m_are_pots, F_are_pots⟩ := F_are_pots
  obtain ⟨a_is_band, fd_is_band, m_is_band, F_is_band⟩ := F_is_band
  obtain ⟨a_check_bands, fd_check_bands, m_check_bands, F_check_bands⟩ := F_check_bands
  obtain ⟨a_law_right, fd_law_right, m_law_right, F_law_right⟩ := F_law_right
  obtain ⟨a_law_digits, fd_law_digits, m_law_digits, F_law_digits⟩ := F_law_digits
  obtain ⟨a_law_cell, fd_law_cell, m_law_cell, F_law_cell⟩ := F_law_cell
  obtain ⟨a_law, fd_law, m_law, F_law⟩ := F_law
  obtain ⟨e_B, k_B, c_Board___init__, a_Board___init__, fd_Board___init__, m_Board___init__, cl_Board___init__, me_Board___init__, F_Board___init__⟩ := F_Board___init__
  rw [hfa] at m_law
  cases m_law
  refine ⟨fd_law, fun s v => ?_, fun base => ?_⟩
  · obtain ⟨oc, od, dV, kV, doc, pm, an, cdv, ct, osl, rfl, _, _, hD, _⟩ := F_law.ex
    rcases hD with ⟨_, rfl⟩ | ⟨e, _⟩
    · exact .of_eq (ba_law kV doc pm an cdv ct [v] rfl)
    · exact absurd rfl e
  have e_law_pick : FnE bse K mg P w base 2 "_law_pick" φ_pick := fnE (k := 0) (GL.nil bf) F_law_pick m_law_pick d_law_pick ba_law_pick rfl (kw_none (by decide +kernel)) hl_law_pick (show Ok (bse.tab _ _) n_pick b_pick φ_pick from ok_pick )
  have e_law_calls : FnE bse K mg P w base 4 "_law_calls" φ_calls := fnE (k := 2) ((GL.nil bf).fn (e_law_pick.mono (by decide : 2 ≤ 2)) (by decide : 0 ≤ 2)) F_law_calls m_law_calls d_law_calls ba_law_calls rfl (kw_none (by decide +kernel)) hl_law_calls (show Ok (bse.tab _ _) n_calls (b_calls "_law_pick") φ_calls from ok_calls ⟨rfl, .head _⟩)
  have e_law_area : FnE bse K mg P w base 4 "_law_area" φ_area := fnE (k := 2) ((GL.nil bf).fn (e_law_pick.mono (by decide : 2 ≤ 2)) (by decide : 0 ≤ 2)) F_law_area m_law_area d_law_area ba_law_area rfl (kw_none (by decide +kernel)) hl_law_area (show Ok (bse.tab _ _) n_area (b_area "_law_pick") φ_area from ok_area ⟨rfl, .head _⟩)
  have e_law_pots : FnE bse K mg P w base 4 "_law_pots" φ_dpots := fnE (k := 2) ((GL.nil bf).fn (e_law_pick.mono (by decide : 2 ≤ 2)) (by decide : 0 ≤ 2)) F_law_pots m_law_pots d_law_pots ba_law_pots rfl (kw_none (by decide +kernel)) hl_law_pots (show Ok (bse.tab _ _) n_dpots (b_dpots "_law_pick") φ_dpots from ok_dpots ⟨rfl, .head _⟩)
  have e_law_belts : FnE bse K mg P w base 6 "_law_belts" φ_belts := fnE (k := 4) (((((GL.nil bf).fn (e_law_pick.mono (by decide : 2 ≤ 4)) (by decide : 0 ≤ 4)).fn (e_law_pots.mono (by decide : 4 ≤ 4)) (by decide : 4 ≤ 4)).fn (e_law_area.mono (by decide : 4 ≤ 4)) (by decide : 4 ≤ 4)).fn (e_law_calls.mono (by decide : 4 ≤ 4)) (by decide : 4 ≤ 4)) F_law_belts m_law_belts d_law_belts ba_law_belts rfl (kw_none (by decide +kernel)) hl_law_belts (show Ok (bse.tab _ _) n_belts (b_belts "_law_calls" "_law_area" "_law_pots" "_law_pick") φ_belts from ok_belts ⟨rfl, .head _⟩ ⟨rfl, .head _⟩ ⟨rfl, .head _⟩ ⟨rfl, .head _⟩)
  have e_law_view : FnE bse K mg P w base 4 "_law_view" φ_view := fnE (k := 2) ((GL.nil bf).fn (e_law_pick.mono (by decide : 2 ≤ 2)) (by decide : 0 ≤ 2)) F_law_view m_law_view d_law_view ba_law_view rfl (kw_none (by decide +kernel)) hl_law_view (show Ok (bse.tab _ _) n_view (b_view "_law_pick") φ_view from ok_view ⟨rfl, .head _⟩)
  have e_law_story : FnE bse K mg P w base 4 "_law_story" φ_story := fnE (k := 2) ((GL.nil bf).fn (e_law_pick.mono (by decide : 2 ≤ 2)) (by decide : 0 ≤ 2)) F_law_story m_law_story d_law_story ba_law_story rfl (kw_none (by decide +kernel)) hl_law_story (show Ok (bse.tab _ _) n_story (b_story "_law_pick") φ_story from ok_story ⟨rfl, .head _⟩)
  have e_law_spots_of : FnE bse K mg P w base 2 "_law_spots_of" φ_spots_of := fnE (k := 0) (GL.nil bf) F_law_spots_of m_law_spots_of d_law_spots_of ba_law_spots_of rfl (kw_none (by decide +kernel)) hl_law_spots_of (show Ok (bse.tab _ _) n_spots_of b_spots_of φ_spots_of from ok_spots_of )
  have e_law_done : FnE bse K mg P w base 4 "_law_done" φ_done := fnE (k := 2) ((GL.nil bf).fn (e_law_spots_of.mono (by decide : 2 ≤ 2)) (by decide : 0 ≤ 2)) F_law_done m_law_done d_law_done ba_law_done rfl (kw_none (by decide +kernel)) hl_law_done (show Ok (bse.tab _ _) n_done (b_done "_law_spots_of") φ_done from ok_done ⟨rfl, .head _⟩)
  have e_check_board : FnE bse K mg P w base 2 "check_board" φ_check_board := fnE (k := 0) (GL.nil bf) F_check_board m_check_board d_check_board ba_check_board rfl (kw_none (by decide +kernel)) hl_check_board (show Ok (bse.tab _ _) n_check_board b_check_board φ_check_board from ok_check_board (fun _ h => h))
  have e_are_letters : FnE bse K mg P w base 2 "are_letters" φ_are_letters := fnE (k := 0) (GL.nil bf) F_are_letters m_are_letters d_are_letters ba_are_letters rfl (kw_none (by decide +kernel)) hl_are_letters (show Ok (bse.tab _ _) n_are_letters b_are_letters φ_are_letters from ok_are_letters rfl)
  have e_is_colour : FnE bse K mg P w base 4 "is_colour" (φ_lett 1) := fnE (k := 2) ((GL.nil bf).fn (e_are_letters.mono (by decide : 2 ≤ 2)) (by decide : 0 ≤ 2)) F_is_colour m_is_colour d_is_colour ba_is_colour rfl (kw_none (by decide +kernel)) hl_is_colour (show Ok (bse.tab _ _) n_is_colour b_is_colour (φ_lett 1) from ok_is_colour ⟨rfl, .head _⟩)
  have e_are_colours : FnE bse K mg P w base 6 "are_colours" φ_are_colours := fnE (k := 4) ((GL.nil bf).fn (e_is_colour.mono (by decide : 4 ≤ 4)) (by decide : 0 ≤ 4)) F_are_colours m_are_colours d_are_colours ba_are_colours rfl (kw_none (by decide +kernel)) hl_are_colours (show Ok (bse.tab _ _) n_are_colours b_are_colours φ_are_colours from ok_are_colours ⟨rfl, .head _⟩)
  have e_how_many : FnE bse K mg P w base 2 "how_many" φ_how_many := fnE (k := 0) (GL.nil bf) F_how_many m_how_many d_how_many ba_how_many rfl (kw_none (by decide +kernel)) hl_how_many (show Ok (bse.tab _ _) n_how_many b_how_many φ_how_many from ok_how_many (fun _ h => h))
  have e_is_picture : FnE bse K mg P w base 8 "is_picture" φ_is_picture := fnE (k := 6) ((((GL.nil bf).fn (e_how_many.mono (by decide : 2 ≤ 6)) (by decide : 0 ≤ 6)).fn (e_are_colours.mono (by decide : 6 ≤ 6)) (by decide : 6 ≤ 6)).fn (e_check_board.mono (by decide : 2 ≤ 6)) (by decide : 6 ≤ 6)) F_is_picture m_is_picture d_is_picture ba_is_picture rfl (kw_none (by decide +kernel)) hl_is_picture (show Ok (bse.tab _ _) n_is_picture b_is_picture φ_is_picture from ok_is_picture ⟨rfl, .head _⟩ ⟨rfl, .head _⟩ ⟨rfl, .head _⟩)
  have e_check_picture : FnE bse K mg P w base 10 "check_picture" φ_check_picture := fnE (k := 8) ((GL.nil bf).fn (e_is_picture.mono (by decide : 8 ≤ 8)) (by decide : 0 ≤ 8)) F_check_picture m_check_picture d_check_picture ba_check_picture rfl (kw_none (by decide +kernel)) hl_check_picture (show Ok (bse.tab _ _) n_check_picture b_check_picture φ_check_picture from ok_check_picture ⟨rfl, .head _⟩)
  have e_is_stroke : FnE bse K mg P w base 2 "is_stroke" φ_is_stroke := fnE (k := 0) (GL.nil bf) F_is_stroke m_is_stroke d_is_stroke ba_is_stroke rfl (kw_none (by decide +kernel)) hl_is_stroke (show Ok (bse.tab _ _) n_is_stroke b_is_stroke φ_is_stroke from ok_is_stroke (fun _ h => h))
  have e_check_history : FnE bse K mg P w base 4 "check_history" φ_check_history := fnE (k := 2) ((GL.nil bf).fn (e_is_stroke.mono (by decide : 2 ≤ 2)) (by decide : 0 ≤ 2)) F_check_history m_check_history d_check_history ba_check_history rfl (kw_none (by decide +kernel)) hl_check_history (show Ok (bse.tab _ _) n_check_history b_check_history φ_check_history from ok_check_history ⟨rfl, .head _⟩ rfl)
  have e_last_numbers : FnE bse K mg P w base 2 "last_numbers" φ_last_numbers := fnE (k := 0) (GL.nil bf) F_last_numbers m_last_numbers d_last_numbers ba_last_numbers rfl (kw_none (by decide +kernel)) hl_last_numbers (show Ok (bse.tab _ _) n_last_numbers b_last_numbers φ_last_numbers from ok_last_numbers (fun _ h => h))
  have e_last_colours : FnE bse K mg P w base 4 "last_colours" φ_last_colours := fnE (k := 2) ((GL.nil bf).fn (e_last_numbers.mono (by decide : 2 ≤ 2)) (by decide : 0 ≤ 2)) F_last_colours m_last_colours d_last_colours ba_last_colours rfl (kw_none (by decide +kernel)) hl_last_colours (show Ok (bse.tab _ _) n_last_colours b_last_colours φ_last_colours from ok_last_colours ⟨rfl, .head _⟩)
  have e_painted : FnE bse K mg P w base 12 "painted" φ_painted := fnE (k := 10) (((((GL.nil bf).fn (e_last_colours.mono (by decide : 4 ≤ 10)) (by decide : 0 ≤ 10)).fn (e_check_history.mono (by decide : 4 ≤ 10)) (by decide : 10 ≤ 10)).fn (e_check_picture.mono (by decide : 10 ≤ 10)) (by decide : 10 ≤ 10)).fn (e_check_board.mono (by decide : 2 ≤ 10)) (by decide : 10 ≤ 10)) F_painted m_painted d_painted ba_painted rfl (kw_none (by decide +kernel)) hl_painted (show Ok (bse.tab _ _) n_painted b_painted φ_painted from ok_painted ⟨rfl, .head _⟩ ⟨rfl, .head _⟩ ⟨rfl, .head _⟩ ⟨rfl, .head _⟩)
  have e_mark : FnE bse K mg P w base 6 "mark" φ_mark := fnE (k := 4) ((((GL.nil bf).fn (e_last_colours.mono (by decide : 4 ≤ 4)) (by decide : 0 ≤ 4)).fn (e_check_history.mono (by decide : 4 ≤ 4)) (by decide : 4 ≤ 4)).fn (e_check_board.mono (by decide : 2 ≤ 4)) (by decide : 4 ≤ 4)) F_mark m_mark d_mark ba_mark rfl (kw_none (by decide +kernel)) hl_mark (show Ok (bse.tab _ _) n_mark b_mark φ_mark from ok_mark ⟨rfl, .head _⟩ ⟨rfl, .head _⟩ ⟨rfl, .head _⟩)
  have e_alike : FnE bse K mg P w base 8 "alike" φ_alike := fnE (k := 6) ((GL.nil bf).fn (e_mark.mono (by decide : 6 ≤ 6)) (by decide : 0 ≤ 6)) F_alike m_alike d_alike ba_alike rfl (kw_by (all_cons (fun _ => ⟨[2, 1, 0], rfl, bk_0⟩) all_nil)) hl_alike (show Ok (bse.tab _ _) n_alike b_alike φ_alike from ok_alike ⟨rfl, .head _⟩)
  have e_law_two_right : FnE bse K mg P w base 14 "_law_two_right" φ_k14_two := fnE (k := 12) (((((GL.nil bf).fn (e_mark.mono (by decide : 6 ≤ 12)) (by decide : 0 ≤ 12)).fn (e_alike.mono (by decide : 8 ≤ 12)) (by decide : 12 ≤ 12)).fn (e_painted.mono (by decide : 12 ≤ 12)) (by decide : 12 ≤ 12)).fn (e_law_done.mono (by decide : 4 ≤ 12)) (by decide : 12 ≤ 12)) F_law_two_right m_law_two_right d_law_two_right ba_law_two_right rfl (kw_none (by decide +kernel)) hl_law_two_right (show Ok (bse.tab _ _) n_k14_two (b_k14_two "_law_done") φ_k14_two from ok_k14_two ⟨rfl, .head _⟩ ⟨rfl, .head _⟩ ⟨rfl, .head _⟩ ⟨rfl, rfl⟩ ⟨rfl, .head _⟩)
  have e_law_thin : FnE bse K mg P w base 4 "_law_thin" φ_thin := fnE (k := 2) ((GL.nil bf).fn (e_law_spots_of.mono (by decide : 2 ≤ 2)) (by decide : 0 ≤ 2)) F_law_thin m_law_thin d_law_thin ba_law_thin rfl (kw_none (by decide +kernel)) hl_law_thin (show Ok (bse.tab _ _) n_thin (b_thin "_law_spots_of") φ_thin from ok_thin ⟨rfl, .head _⟩)
  have e_law_other : FnE bse K mg P w base 6 "_law_other" φ_k14_other := fnE (k := 4) ((((GL.nil bf).fn (e_law_thin.mono (by decide : 4 ≤ 4)) (by decide : 0 ≤ 4)).fn (e_law_story.mono (by decide : 4 ≤ 4)) (by decide : 4 ≤ 4)).fn (e_law_pick.mono (by decide : 2 ≤ 4)) (by decide : 4 ≤ 4)) F_law_other m_law_other d_law_other ba_law_other rfl (kw_none (by decide +kernel)) hl_law_other (show Ok (bse.tab _ _) n_k14_other (b_k14_other "_law_pick" "_law_story" "_law_thin") φ_k14_other from ok_k14_other ⟨rfl, .head _⟩ ⟨rfl, .head _⟩ ⟨rfl, .head _⟩)
  have e_is_whole : FnE bse K mg P w base 2 "is_whole" φ_is_whole := fnE (k := 0) (GL.nil bf) F_is_whole m_is_whole d_is_whole ba_is_whole rfl (kw_none (by decide +kernel)) hl_is_whole (show Ok (bse.tab _ _) n_is_whole b_is_whole φ_is_whole from ok_is_whole )
  have e_is_within : FnE bse K mg P w base 4 "is_within" φ_is_within := fnE (k := 2) ((GL.nil bf).fn (e_is_whole.mono (by decide : 2 ≤ 2)) (by decide : 0 ≤ 2)) F_is_within m_is_within d_is_within ba_is_within rfl (kw_none (by decide +kernel)) hl_is_within (show Ok (bse.tab _ _) n_is_within b_is_within φ_is_within from ok_is_within ⟨rfl, .head _⟩)
  have e_is_name : FnE bse K mg P w base 4 "is_name" (φ_lett 6) := fnE (k := 2) ((GL.nil bf).fn (e_are_letters.mono (by decide : 2 ≤ 2)) (by decide : 0 ≤ 2)) F_is_name m_is_name d_is_name ba_is_name rfl (kw_none (by decide +kernel)) hl_is_name (show Ok (bse.tab _ _) n_is_name b_is_name (φ_lett 6) from ok_is_name ⟨rfl, .head _⟩ rfl)
  have e_is_rising : FnE bse K mg P w base 2 "is_rising" φ_is_rising := fnE (k := 0) (GL.nil bf) F_is_rising m_is_rising d_is_rising ba_is_rising rfl (kw_none (by decide +kernel)) hl_is_rising (show Ok (bse.tab _ _) n_is_rising b_is_rising φ_is_rising from ok_is_rising )
  have e_are_cells : FnE bse K mg P w base 6 "are_cells" φ_are_cells := fnE (k := 4) (((GL.nil bf).fn (e_is_rising.mono (by decide : 2 ≤ 4)) (by decide : 0 ≤ 4)).fn (e_is_within.mono (by decide : 4 ≤ 4)) (by decide : 4 ≤ 4)) F_are_cells m_are_cells d_are_cells ba_are_cells rfl (kw_none (by decide +kernel)) hl_are_cells (show Ok (bse.tab _ _) n_are_cells b_are_cells φ_are_cells from ok_are_cells ⟨rfl, .head _⟩ ⟨rfl, .head _⟩)
  have e_are_pots : FnE bse K mg P w base 4 "are_pots" φ_are_pots := fnE (k := 2) (((GL.nil bf).fn (e_is_rising.mono (by decide : 2 ≤ 2)) (by decide : 0 ≤ 2)).fn (e_are_letters.mono (by decide : 2 ≤ 2)) (by decide : 2 ≤ 2)) F_are_pots m_are_pots d_are_pots ba_are_pots rfl (kw_none (by decide +kernel)) hl_are_pots (show Ok (bse.tab _ _) n_are_pots b_are_pots φ_are_pots from ok_are_pots ⟨rfl, .head _⟩ ⟨rfl, .head _⟩ rfl)
  have e_is_band : FnE bse K mg P w base 8 "is_band" φ_is_band := fnE (k := 6) (((((GL.nil bf).fn (e_is_within.mono (by decide : 4 ≤ 6)) (by decide : 0 ≤ 6)).fn (e_are_pots.mono (by decide : 4 ≤ 6)) (by decide : 6 ≤ 6)).fn (e_are_cells.mono (by decide : 6 ≤ 6)) (by decide : 6 ≤ 6)).fn (e_is_name.mono (by decide : 4 ≤ 6)) (by decide : 6 ≤ 6)) F_is_band m_is_band d_is_band ba_is_band rfl (kw_none (by decide +kernel)) hl_is_band (show Ok (bse.tab _ _) n_is_band b_is_band φ_is_band from ok_is_band ⟨rfl, .head _⟩ ⟨rfl, .head _⟩ ⟨rfl, .head _⟩ ⟨rfl, .head _⟩ rfl)
  have e_check_bands : FnE bse K mg P w base 10 "check_bands" φ_check_bands := fnE (k := 8) ((GL.nil bf).fn (e_is_band.mono (by decide : 8 ≤ 8)) (by decide : 0 ≤ 8)) F_check_bands m_check_bands d_check_bands ba_check_bands rfl (kw_none (by decide +kernel)) hl_check_bands (show Ok (bse.tab _ _) n_check_bands b_check_bands φ_check_bands from ok_check_bands ⟨rfl, .head _⟩ rfl)
  have e_Board___init__ : MeE bse K mg P w base 12 "Board" ini φ_Board_init := by
    obtain ⟨ds3, v3, b3⟩ := F_Board___init__.binds1 (ps := p_Board___init__) 3 0 (by simp) rfl (fun T kV doc pm an cdv ct us its hu hi => match us, its, hu, hi with | [_, _, _], [_], _, _ => ⟨_, rfl, rfl⟩)
    obtain ⟨ds4, v4, b4⟩ := F_Board___init__.binds1 (ps := p_Board___init__) 4 1 (by simp) rfl (fun T kV doc pm an cdv ct us its hu hi => match us, its, hu, hi with | [_, _, _, _], [_], _, _ => ⟨_, rfl, rfl⟩)
    cases v4
    exact meE (k := 10) (((GL.nil bf).fn (e_check_bands.mono (by decide : 10 ≤ 10)) (by decide : 0 ≤ 10)).fn (e_is_within.mono (by decide : 4 ≤ 10)) (by decide : 10 ≤ 10)) F_Board___init__ m_Board___init__ cl_Board___init__ me_Board___init__ d_Board___init__ b4
      (fun _ => ⟨⟨(M_Board c_Board___init__ m_Board___init__).1, me_Board___init__.at_, me_Board___init__.fn, (M_Board c_Board___init__ m_Board___init__).2⟩, (show ∀ df ∈ [[]], _ from (all_cons ⟨[], [], b4, .nil, fun _ _ _ => RDs.nil⟩ all_nil))⟩) hl_Board___init__ (show Ok (bse.tab _ _) n_Board_init b_Board_init φ_Board_init from ok_Board_init ⟨rfl, .head _⟩ ⟨rfl, .head _⟩ rfl (fun _ h => h))
  have e_law_right : FnE bse K mg P w base 16 "_law_right" φ_ask := fnE (k := 14) ((((((((((GL.nil bf).fn (e_alike.mono (by decide : 8 ≤ 14)) (by decide : 0 ≤ 14)).me (e_Board___init__.mono (by decide : 12 ≤ 14)) (by decide : 14 ≤ 14)).fn (e_law_thin.mono (by decide : 4 ≤ 14)) (by decide : 14 ≤ 14)).fn (e_law_other.mono (by decide : 6 ≤ 14)) (by decide : 14 ≤ 14)).fn (e_law_two_right.mono (by decide : 14 ≤ 14)) (by decide : 14 ≤ 14)).fn (e_law_story.mono (by decide : 4 ≤ 14)) (by decide : 14 ≤ 14)).fn (e_law_view.mono (by decide : 4 ≤ 14)) (by decide : 14 ≤ 14)).fn (e_law_belts.mono (by decide : 6 ≤ 14)) (by decide : 14 ≤ 14)).fn (e_law_pick.mono (by decide : 2 ≤ 14)) (by decide : 14 ≤ 14)) F_law_right m_law_right d_law_right ba_law_right rfl (kw_none (by decide +kernel)) hl_law_right (show Ok (bse.tab _ _) n_k14_right (b_k14_right "_law_pick" "_law_belts" "_law_view" "_law_story" "_law_two_right" "_law_other" "_law_thin") φ_ask from ok_k14_right ⟨rfl, .head _⟩ ⟨rfl, .head _⟩ ⟨rfl, .head _⟩ ⟨rfl, .head _⟩ ⟨rfl, .head _⟩ ⟨rfl, .head _⟩ ⟨rfl, .head _⟩ ⟨rfl, .head _⟩ ⟨rfl, .head _⟩)
  have e_law_digits : FnE bse K mg P w base 2 "_law_digits" φ_purse := fnE (k := 0) (GL.nil bf) F_law_digits m_law_digits d_law_digits ba_law_digits rfl (kw_none (by decide +kernel)) hl_law_digits (show Ok (bse.tab _ _) n_purse b_purse φ_purse from ok_purse )
  have e_law_cell : FnE bse K mg P w base 2 "_law_cell" φ_cell := fnE (k := 0) (GL.nil bf) F_law_cell m_law_cell d_law_cell ba_law_cell rfl (kw_none (by decide +kernel)) hl_law_cell (show Ok (bse.tab _ _) n_cell b_cell φ_cell from ok_cell )
  exact fn_ok (k := 16) (GL.ge ((((GL.nil bf).fn (e_law_cell.mono (by decide : 2 ≤ 16)) (by decide : 0 ≤ 16)).fn (e_law_digits.mono (by decide : 2 ≤ 16)) (by decide : 16 ≤ 16)).fn (e_law_right.mono (by decide : 16 ≤ 16)) (by decide : 16 ≤ 16))) (FunD.shape F_law) d_law hl_law (show Ok (bse.tab _ _) n_k14_law (b_k14_law "_law_right" "_law_digits" "_law_cell") φ_law from ok_k14_law ⟨rfl, .head _⟩ ⟨rfl, .head _⟩ ⟨rfl, .head _⟩)
end G
namespace G
open PySem L2
theorem fin_j {P : Program} {w : World} {K : PySem.W.Frag} {mg : Str → Option Value} {h : Heap} {fa : Addr} (X : K.In h) (G : h.Ns mainGlobals mg) (hfa : mg "law" = some (.ref fa))
    (c0 : ∃ t, mg "LETTERS" = some (.str (mkS abc) t))
    (c1 : ∃ t, mg "MOST_STROKES" = some (.int 60 t))
    (c2 : ∃ t, mg "MOST_SIDE" = some (.int 6 t))
    (c3 : ∃ t, mg "MOST_BANDS" = some (.int 12 t))
    (c4 : ∃ t, mg "MOST_COST" = some (.int 9 t))
    (c5 : ∃ t, mg "MOST_NAME" = some (.int 6 t))
    (c6 : ∃ t, mg "MOST_POTS" = some (.int 6 t))
    (kBoard : FactCls K mg "Board" ["high", "wide", "bands"])
    (oBoard : FactOwn K mg "Board")
    (oWall : FactOwn K mg "Wall")
    (oDesk : FactOwn K mg "Desk")
    (t0 : FactTwo K mg "Board" "Wall")
    (t1 : FactTwo K mg "Board" "Desk")
    (t2 : FactTwo K mg "Wall" "Desk")
    (z0 : PySem.W.nsIn K mainGlobals "len" = some none)
    (z1 : PySem.W.nsIn K mainGlobals "all" = some none)
    (z2 : PySem.W.nsIn K mainGlobals "any" = some none)
    (z3 : PySem.W.nsIn K mainGlobals "abs" = some none)
    (z4 : PySem.W.nsIn K mainGlobals "max" = some none)
    (z5 : PySem.W.nsIn K mainGlobals "min" = some none)
    (z6 : PySem.W.nsIn K mainGlobals "int" = some none)
    (z7 : PySem.W.nsIn K mainGlobals "str" = some none)
    (z8 : PySem.W.nsIn K mainGlobals "tuple" = some none)
    (z9 : PySem.W.nsIn K mainGlobals "list" = some none)
    (z10 : PySem.W.nsIn K mainGlobals "divmod" = some none)
    (z11 : PySem.W.nsIn K mainGlobals "isinstance" = some none)
    (z12 : PySem.W.nsIn K mainGlobals "range" = some none)
    (z13 : PySem.W.nsIn K mainGlobals "enumerate" = some none)
    (z14 : PySem.W.nsIn K mainGlobals "zip" = some none)
    (z15 : PySem.W.nsIn K mainGlobals "bool" = some none)
    (z16 : PySem.W.nsIn K mainGlobals "dict" = some none)
    (z17 : PySem.W.nsIn K mainGlobals "sorted" = some none)
    (z18 : PySem.W.nsIn K mainGlobals "set" = some none)
    (z19 : PySem.W.nsIn K mainGlobals "repr" = some none)
    (z20 : PySem.W.nsIn K mainGlobals "sum" = some none)
    (z21 : PySem.W.nsIn K mainGlobals "reversed" = some none)
    (F_law_pick : FactFn K mg "_law_pick" s_law_pick)
    (F_law_calls : FactFn K mg "_law_calls" s_law_calls)
    (F_law_area : FactFn K mg "_law_area" s_law_area)
    (F_law_pots : FactFn K mg "_law_pots" s_law_pots)
    (F_law_belts : FactFn K mg "_law_belts" s_law_belts)
    (F_law_view : FactFn K mg "_law_view" s_law_view)
    (F_law_story : FactFn K mg "_law_story" s_law_story)
    (F_law_spots_of : FactFn K mg "_law_spots_of" s_law_spots_of)
    (F_law_done : FactFn K mg "_law_done" s_law_done)
    (F_check_board : FactFn K mg "check_board" s_check_board)
    (F_are_letters : FactFn K mg "are_letters" s_are_letters)
    (F_is_colour : FactFn K mg "is_colour" s_is_colour)
    (F_are_colours : FactFn K mg "are_colours" s_are_colours)
    (F_how_many : FactFn K mg "how_many" s_how_many)
    (F_is_picture : FactFn K mg "is_picture" s_is_picture)
    (F_check_picture : FactFn K mg "check_picture" s_check_picture)
    (F_is_stroke : FactFn K mg "is_stroke" s_is_stroke)
    (F_check_history : FactFn K mg "check_history" s_check_history)
    (F_last_numbers : FactFn K mg "last_numbers" s_last_numbers)
    (F_last_colours : FactFn K mg "last_colours" s_last_colours)
    (F_painted : FactFn K mg "painted" s_painted)
    (F_mark : FactFn K mg "mark" s_mark)
    (F_alike : FactFn K mg "alike" s_alike)
    (F_law_two_right : FactFn K mg "_law_two_right" s_law_two_right)
    (F_law_thin : FactFn K mg "_law_thin" s_law_thin)
    (F_law_other : FactFn K mg "_law_other" s_law_other)
    (F_is_whole : FactFn K mg "is_whole" s_is_whole)
    (F_is_within : FactFn K mg "is_within" s_is_within)
    (F_is_name : FactFn K mg "is_name" s_is_name)
    (F_is_rising : FactFn K mg "is_rising" s_is_rising)
    (F_are_cells : FactFn K mg "are_cells" s_are_cells)
    (F_are_pots : FactFn K mg "are_pots" s_are_pots)
    (F_is_band : FactFn K mg "is_band" s_is_band)
    (F_check_bands : FactFn K mg "check_bands" s_check_bands)
    (F_Board___init__ : FactMeD K mg "Board" ini "Board.__init__" s_Board___init__)
    (F_law_right : FactFn K mg "_law_right" s_law_right)
    (F_law_digits : FactFn K mg "_law_digits" s_law_digits)
    (F_law_cell : FactFn K mg "_law_cell" s_law_cell)
    (F_law : FactFn K mg "law" s_law)
    : ∃ φ : FSp, (∀ (ns : List Int) S E, ns.length ≤ 63 → φ [.lsk (ns.map .int)] S (fun d _ => d = .bl true) E) ∧ ∃ fd : FuncData, (∀ (s : Shared) (u : Value), BindsTo s fd ⟨[u], []⟩ [("_law_script", u)]) ∧ ∀ base : Heap, FnG P w K mg base (L2.CX P w) 18 fa fd ["_law_script"] (spOf K mg φ) := by
  have bf : BF bse K mg := bf_of (all_cons (con_str' c0 (by decide)) (all_cons (con_int' c1) (all_cons (con_int' c2) (all_cons (con_int' c3) (all_cons (con_int' c4) (all_cons (con_int' c5) (all_cons (con_int' c6) all_nil))))))) (all_cons (fld_of kBoard) all_nil) (own_all oBoard oWall oDesk t0 t1 t2) (all_cons (gone_of X G z0) (all_cons (gone_of X G z1) (all_cons (gone_of X G z2) (all_cons (gone_of X G z3) (all_cons (gone_of X G z4) (all_cons (gone_of X G z5) (all_cons (gone_of X G z6) (all_cons (gone_of X G z7) (all_cons (gone_of X G z8) (all_cons (gone_of X G z9) (all_cons (gone_of X G z10) (all_cons (gone_of X G z11) (all_cons (gone_of X G z12) (all_cons (gone_of X G z13) (all_cons (gone_of X G z14) (all_cons (gone_of X G z15) (all_cons (gone_of X G z16) (all_cons (gone_of X G z17) (all_cons (gone_of X G z18) (all_cons (gone_of X G z19) (all_cons (gone_of X G z20) (all_cons (gone_of X G z21) all_nil))))))))))))))))))))))
  exact ⟨φ_law, fun ns S E h => ⟨ns, rfl, h, fun _ => rfl⟩, all_j hfa bf F_law_pick F_law_calls F_law_area F_law_pots F_law_belts F_law_view F_law_story F_law_spots_of F_law_done F_check_board F_are_letters F_is_colour F_are_colours F_how_many F_is_picture F_check_picture F_is_stroke F_check_history F_last_numbers F_last_colours F_painted F_mark F_alike F_law_two_right F_law_thin F_law_other F_is_whole F_is_within F_is_name F_is_rising F_are_cells F_are_pots F_is_band F_check_bands F_Board___init__ F_law_right F_law_digits F_law_cell F_law (mk_of kBoard)⟩
end G
open PySem PySem.W PyProof.Rows
set_option maxRecDepth 100000 in
set_option maxHeartbeats 0 in
theorem PySem.Challenge.cw_lastcoat_k14_whole_alike_from_every_pict_holds : PySem.Challenge.rw_lastcoat_k14_whole_alike_from_every_pict.Holds := by
  w_on; o_law; k_head; (case hw => w_witness2)
  k_fill
  refine G.walk_law (l := PySem.Challenge.rw_lastcoat_k14_whole_alike_from_every_pict) (n := 63) (k := 18) (x := "_law_script") rfl (by decide) rfl ⟨rfl, by decide, by decide⟩ (fun w h Y => PySem.W.kIn_of Y) ?F
  case F =>
    intro w mg fa h KX GN hmg0
    have hmg : mg "law" = some (.ref fa) := hmg0
    clear hmg0
    refine' (fun (kkBoard : G.FactCls _ mg "Board" ["high", "wide", "bands"]) => ?main_Board) (G.fact_cls KX GN ?nBoard ?pgBoard ?hdBoard ?poBoard ?saBoard ?mkBoard ?kcBoard ?i1Board ?i2Board ?i3Board ?i4Board ?naBoard)
    rotate_left
    (case nBoard => k_is)
    (case pgBoard => k_is)
    (case hdBoard => k_is)
    (case poBoard => k_is)
    (case saBoard => k_is)
    (case mkBoard => k_is)
    (case kcBoard => k_is)
    (case i1Board => k_is)
    (case i2Board => k_is)
    (case i3Board => k_is)
    (case i4Board => k_is)
    case naBoard =>
      intro f hf
      simp only [List.mem_cons, List.not_mem_nil, or_false] at hf
      rcases hf with rfl | rfl | rfl
      · unfold L2.NoAttr; k_is
      · unfold L2.NoAttr; k_is
      · unfold L2.NoAttr; k_is
    refine' G.fin_j KX GN hmg ?c0 ?c1 ?c2 ?c3 ?c4 ?c5 ?c6 kkBoard ?oBoard ?oWall ?oDesk ?t0 ?t1 ?t2 ?z0 ?z1 ?z2 ?z3 ?z4 ?z5 ?z6 ?z7 ?z8 ?z9 ?z10 ?z11 ?z12 ?z13 ?z14 ?z15 ?z16 ?z17 ?z18 ?z19 ?z20 ?z21 ?F_law_pick ?F_law_calls ?F_law_area ?F_law_pots ?F_law_belts ?F_law_view ?F_law_story ?F_law_spots_of ?F_law_done ?F_check_board ?F_are_letters ?F_is_colour ?F_are_colours ?F_how_many ?F_is_picture ?F_check_picture ?F_is_stroke ?F_check_history ?F_last_numbers ?F_last_colours ?F_painted ?F_mark ?F_alike ?F_law_two_right ?F_law_thin ?F_law_other ?F_is_whole ?F_is_within ?F_is_name ?F_is_rising ?F_are_cells ?F_are_pots ?F_is_band ?F_check_bands ?F_Board___init__ ?F_law_right ?F_law_digits ?F_law_cell ?F_law
    case c0 =>
      exact He.str_ok KX GN (x := "LETTERS") (z := G.mkS G.abc) (by kernel_rfl)
    case c1 =>
      exact He.int_ok KX GN (x := "MOST_STROKES") (i := 60) (by kernel_rfl)
    case c2 =>
      exact He.int_ok KX GN (x := "MOST_SIDE") (i := 6) (by kernel_rfl)
    case c3 =>
      exact He.int_ok KX GN (x := "MOST_BANDS") (i := 12) (by kernel_rfl)
    case c4 =>
      exact He.int_ok KX GN (x := "MOST_COST") (i := 9) (by kernel_rfl)
    case c5 =>
      exact He.int_ok KX GN (x := "MOST_NAME") (i := 6) (by kernel_rfl)
    case c6 =>
      exact He.int_ok KX GN (x := "MOST_POTS") (i := 6) (by kernel_rfl)
    case oBoard =>
      refine' G.own_yes kkBoard KX GN ?h1_n ?h1_b ?h1_m1 ?h1_m2 ?h1_m3 ?h1_m4 ?h1_m5 ?h1_m6 ?h1_ms
      (case h1_n => k_is); (case h1_b => k_is); (case h1_m1 => k_is); (case h1_m2 => k_is); (case h1_m3 => k_is); (case h1_m4 => k_is); (case h1_m5 => k_is); (case h1_m6 => k_is); (case h1_ms => k_is)
    case oWall =>
      refine' G.own_no KX GN ?h2_n
      (case h2_n => k_is)
    case oDesk =>
      refine' G.own_no KX GN ?h3_n
      (case h3_n => k_is)
    case t0 =>
      refine' G.two_no KX GN ?h4_n
      (case h4_n => k_is)
    case t1 =>
      refine' G.two_no KX GN ?h5_n
      (case h5_n => k_is)
    case t2 =>
      refine' G.two_no KX GN ?h6_n
      (case h6_n => k_is)
    (case z0 => k_is); (case z1 => k_is); (case z2 => k_is); (case z3 => k_is); (case z4 => k_is); (case z5 => k_is); (case z6 => k_is); (case z7 => k_is); (case z8 => k_is); (case z9 => k_is); (case z10 => k_is); (case z11 => k_is); (case z12 => k_is); (case z13 => k_is); (case z14 => k_is); (case z15 => k_is); (case z16 => k_is); (case z17 => k_is); (case z18 => k_is); (case z19 => k_is); (case z20 => k_is); (case z21 => k_is)
    case F_law_pick =>
      refine' G.fact_fn KX GN ?h7_n ?h7_l ?h7_c ?h7_k
      (case h7_n => k_is); (case h7_l => k_is); (case h7_c => k_is); (case h7_k => k_is)
    case F_law_calls =>
      refine' G.fact_fn KX GN ?h8_n ?h8_l ?h8_c ?h8_k
      (case h8_n => k_is); (case h8_l => k_is); (case h8_c => k_is); (case h8_k => k_is)
    case F_law_area =>
      refine' G.fact_fn KX GN ?h9_n ?h9_l ?h9_c ?h9_k
      (case h9_n => k_is); (case h9_l => k_is); (case h9_c => k_is); (case h9_k => k_is)
    case F_law_pots =>
      refine' G.fact_fn KX GN ?h10_n ?h10_l ?h10_c ?h10_k
      (case h10_n => k_is); (case h10_l => k_is); (case h10_c => k_is); (case h10_k => k_is)
    case F_law_belts =>
      refine' G.fact_fn KX GN ?h11_n ?h11_l ?h11_c ?h11_k
      (case h11_n => k_is); (case h11_l => k_is); (case h11_c => k_is); (case h11_k => k_is)
    case F_law_view =>
      refine' G.fact_fn KX GN ?h12_n ?h12_l ?h12_c ?h12_k
      (case h12_n => k_is); (case h12_l => k_is); (case h12_c => k_is); (case h12_k => k_is)
    case F_law_story =>
      refine' G.fact_fn KX GN ?h13_n ?h13_l ?h13_c ?h13_k
      (case h13_n => k_is); (case h13_l => k_is); (case h13_c => k_is); (case h13_k => k_is)
    case F_law_spots_of =>
      refine' G.fact_fn KX GN ?h14_n ?h14_l ?h14_c ?h14_k
      (case h14_n => k_is); (case h14_l => k_is); (case h14_c => k_is); (case h14_k => k_is)
    case F_law_done =>
      refine' G.fact_fn KX GN ?h15_n ?h15_l ?h15_c ?h15_k
      (case h15_n => k_is); (case h15_l => k_is); (case h15_c => k_is); (case h15_k => k_is)
    case F_check_board =>
      refine' G.fact_fn KX GN ?h16_n ?h16_l ?h16_c ?h16_k
      (case h16_n => k_is); (case h16_l => k_is); (case h16_c => k_is); (case h16_k => k_is)
    case F_are_letters =>
      refine' G.fact_fn KX GN ?h17_n ?h17_l ?h17_c ?h17_k
      (case h17_n => k_is); (case h17_l => k_is); (case h17_c => k_is); (case h17_k => k_is)
    case F_is_colour =>
      refine' G.fact_fn KX GN ?h18_n ?h18_l ?h18_c ?h18_k
      (case h18_n => k_is); (case h18_l => k_is); (case h18_c => k_is); (case h18_k => k_is)
    case F_are_colours =>
      refine' G.fact_fn KX GN ?h19_n ?h19_l ?h19_c ?h19_k
      (case h19_n => k_is); (case h19_l => k_is); (case h19_c => k_is); (case h19_k => k_is)
    case F_how_many =>
      refine' G.fact_fn KX GN ?h20_n ?h20_l ?h20_c ?h20_k
      (case h20_n => k_is); (case h20_l => k_is); (case h20_c => k_is); (case h20_k => k_is)
    case F_is_picture =>
      refine' G.fact_fn KX GN ?h21_n ?h21_l ?h21_c ?h21_k
      (case h21_n => k_is); (case h21_l => k_is); (case h21_c => k_is); (case h21_k => k_is)
    case F_check_picture =>
      refine' G.fact_fn KX GN ?h22_n ?h22_l ?h22_c ?h22_k
      (case h22_n => k_is); (case h22_l => k_is); (case h22_c => k_is); (case h22_k => k_is)
    case F_is_stroke =>
      refine' G.fact_fn KX GN ?h23_n ?h23_l ?h23_c ?h23_k
      (case h23_n => k_is); (case h23_l => k_is); (case h23_c => k_is); (case h23_k => k_is)
    case F_check_history =>
      refine' G.fact_fn KX GN ?h24_n ?h24_l ?h24_c ?h24_k
      (case h24_n => k_is); (case h24_l => k_is); (case h24_c => k_is); (case h24_k => k_is)
    case F_last_numbers =>
      refine' G.fact_fn KX GN ?h25_n ?h25_l ?h25_c ?h25_k
      (case h25_n => k_is); (case h25_l => k_is); (case h25_c => k_is); (case h25_k => k_is)
    case F_last_colours =>
      refine' G.fact_fn KX GN ?h26_n ?h26_l ?h26_c ?h26_k
      (case h26_n => k_is); (case h26_l => k_is); (case h26_c => k_is); (case h26_k => k_is)
    case F_painted =>
      refine' G.fact_fn KX GN ?h27_n ?h27_l ?h27_c ?h27_k
      (case h27_n => k_is); (case h27_l => k_is); (case h27_c => k_is); (case h27_k => k_is)
    case F_mark =>
      refine' G.fact_fn KX GN ?h28_n ?h28_l ?h28_c ?h28_k
      (case h28_n => k_is); (case h28_l => k_is); (case h28_c => k_is); (case h28_k => k_is)
    case F_alike =>
      refine' G.fact_fn KX GN ?h29_n ?h29_l ?h29_c ?h29_k
      (case h29_n => k_is); (case h29_l => k_is); (case h29_c => k_is); (case h29_k => k_is)
    case F_law_two_right =>
      refine' G.fact_fn KX GN ?h30_n ?h30_l ?h30_c ?h30_k
      (case h30_n => k_is); (case h30_l => k_is); (case h30_c => k_is); (case h30_k => k_is)
    case F_law_thin =>
      refine' G.fact_fn KX GN ?h31_n ?h31_l ?h31_c ?h31_k
      (case h31_n => k_is); (case h31_l => k_is); (case h31_c => k_is); (case h31_k => k_is)
    case F_law_other =>
      refine' G.fact_fn KX GN ?h32_n ?h32_l ?h32_c ?h32_k
      (case h32_n => k_is); (case h32_l => k_is); (case h32_c => k_is); (case h32_k => k_is)
    case F_is_whole =>
      refine' G.fact_fn KX GN ?h33_n ?h33_l ?h33_c ?h33_k
      (case h33_n => k_is); (case h33_l => k_is); (case h33_c => k_is); (case h33_k => k_is)
    case F_is_within =>
      refine' G.fact_fn KX GN ?h34_n ?h34_l ?h34_c ?h34_k
      (case h34_n => k_is); (case h34_l => k_is); (case h34_c => k_is); (case h34_k => k_is)
    case F_is_name =>
      refine' G.fact_fn KX GN ?h35_n ?h35_l ?h35_c ?h35_k
      (case h35_n => k_is); (case h35_l => k_is); (case h35_c => k_is); (case h35_k => k_is)
    case F_is_rising =>
      refine' G.fact_fn KX GN ?h36_n ?h36_l ?h36_c ?h36_k
      (case h36_n => k_is); (case h36_l => k_is); (case h36_c => k_is); (case h36_k => k_is)
    case F_are_cells =>
      refine' G.fact_fn KX GN ?h37_n ?h37_l ?h37_c ?h37_k
      (case h37_n => k_is); (case h37_l => k_is); (case h37_c => k_is); (case h37_k => k_is)
    case F_are_pots =>
      refine' G.fact_fn KX GN ?h38_n ?h38_l ?h38_c ?h38_k
      (case h38_n => k_is); (case h38_l => k_is); (case h38_c => k_is); (case h38_k => k_is)
    case F_is_band =>
      refine' G.fact_fn KX GN ?h39_n ?h39_l ?h39_c ?h39_k
      (case h39_n => k_is); (case h39_l => k_is); (case h39_c => k_is); (case h39_k => k_is)
    case F_check_bands =>
      refine' G.fact_fn KX GN ?h40_n ?h40_l ?h40_c ?h40_k
      (case h40_n => k_is); (case h40_l => k_is); (case h40_c => k_is); (case h40_k => k_is)
    case F_Board___init__ =>
      refine' G.fact_meD KX GN ?h41_n ?h41_pg ?h41_hd ?h41_po ?h41_sa ?h41_fi ?h41_fn ?h41_l ?h41_cc ?h41_k ?h41_lT ?h41_dT ?h41_le ?h41_ce ?h41_de
      (case h41_n => k_is); (case h41_pg => k_is); (case h41_hd => k_is); (case h41_po => k_is); (case h41_sa => k_is); (case h41_fi => k_is); (case h41_fn => k_is); (case h41_l => k_is); (case h41_cc => k_is); (case h41_k => k_is); (case h41_lT => k_is); (case h41_dT => rfl); (case h41_le => k_is); (case h41_ce => rfl); (case h41_de => rfl)
    case F_law_right =>
      refine' G.fact_fn KX GN ?h42_n ?h42_l ?h42_c ?h42_k
      (case h42_n => k_is); (case h42_l => k_is); (case h42_c => k_is); (case h42_k => k_is)
    case F_law_digits =>
      refine' G.fact_fn KX GN ?h43_n ?h43_l ?h43_c ?h43_k
      (case h43_n => k_is); (case h43_l => k_is); (case h43_c => k_is); (case h43_k => k_is)
    case F_law_cell =>
      refine' G.fact_fn KX GN ?h44_n ?h44_l ?h44_c ?h44_k
      (case h44_n => k_is); (case h44_l => k_is); (case h44_c => k_is); (case h44_k => k_is)
    case F_law =>
      refine' G.fact_fn KX GN ?h45_n ?h45_l ?h45_c ?h45_k
      (case h45_n => k_is); (case h45_l => k_is); (case h45_c => k_is); (case h45_k => k_is)
