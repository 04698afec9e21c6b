import PyProof.Rows.All
import Wide.All
import OpenK.AllK
import Wide.FinOn
import PyProof.EqAt
import PyProof.EqKinds
import PyProof.TupleCall
import HandS.ForMost
import HandS.ForExc
import HandS.ExcCtx
import HandS.Flow
import HandS.Wide
import HandS.WideBits
import HandS.TupAny
import HandS.Deep
import HandS.Zip
import HandS.SortInts
import HandS.HotCalls
import HandS.ExcIs
import PyProof.SumWalkG
import PyProof.CompUse
import HandS.Ends
import HandS.Style
import HandS.Conv
import HandS.IsInst
import HandS.TupMul
import KE.KRevSl
import KE.KBits
import KE.BitLaws
import HandS.SetFor
import HandS.Set
import HandS.Strs
import HandS.Gcd
import HandS.Dict
import HandS.More
import PyProof.ListMulRoad
import PyProof.FactsAll.tuple_2
import HandS.Comp
import HandS.DictComp
import HandS.WordsDict
import PyProof.TupleIter
import KE.KTupSum
import KE.DataAny
import KE.KSortedAny
import HandS.SortKw
import PySem.Challenge.RW_beliefbend_k59_whole_big_steps
set_option Elab.async false
set_option linter.all false
set_option maxRecDepth 100000
set_option autoImplicit false
set_option maxHeartbeats 2000000
/-! Bb1: data over the abstract heap, predicate transformers over data, and what links a reading of the hand layer with one of them. -/
namespace BB
open PySem PySem.Spec PyProof.Rows L2

abbrev D := PyData
abbrev Sl := L2.St

/-! ### data -/
mutual
inductive IsD (F : Hp) : V → D → Prop
  | non : IsD F .non .none
  | bl (b : Bool) : IsD F (.bl b) (.bool b)
  | int (i : Int) : IsD F (.int i) (.int i)
  | str (x : Str) : IsD F (.str x) (.str x)
  | lst {a : Addr} {xs : List V} {ds : List D} : F a = some (.lst xs) → IsDs F xs ds → IsD F (.ref a) (.list ds)
  | tup {a : Addr} {xs : List V} {ds : List D} : F a = some (.tup xs) → IsDs F xs ds → IsD F (.ref a) (.tuple ds)
inductive IsDs (F : Hp) : List V → List D → Prop
  | nil : IsDs F [] []
  | cons {v : V} {vs : List V} {d : D} {ds : List D} : IsD F v d → IsDs F vs ds → IsDs F (v :: vs) (d :: ds)
end

/-- every object of the first heap stands in the second -/
def Ex (H H' : Hp) : Prop := ∀ a o, H a = some o → H' a = some o
theorem Ex.rfl' {H : Hp} : Ex H H := fun _ _ h => h
theorem Ex.tr {A B C : Hp} (x : Ex A B) (y : Ex B C) : Ex A C := fun a o h => y a o (x a o h)
theorem Ex.nw {H : Hp} {p : Addr} {o : HO} (h : H p = none) : Ex H (upd H p o) := fun a u e => by
  rw [upd_ne (ne_of_none e h)]; exact e
theorem Ex.both {A B : Hp} {p : Addr} {o : HO} (x : Ex A B) : Ex (upd A p o) (upd B p o) := fun a u e => by
  by_cases h : a = p
  · subst h; rw [upd_same] at e ⊢; exact e
  · rw [upd_ne h] at e ⊢; exact x a u e
theorem Ex.free {A B : Hp} {p : Addr} (x : Ex A B) (h : B p = none) : A p = none := by
  cases q : A p with
  | none => rfl
  | some o => rw [x p o q] at h; cases h
theorem Ex.over {A B : Hp} {p : Addr} {o : HO} (x : Ex A B) (h : A p = none) : Ex A (upd B p o) := fun a u e => by
  rw [upd_ne (ne_of_none e h)]; exact x a u e

mutual
theorem isd_mono {F G : Hp} (x : Ex F G) : ∀ (d : D) (v : V), IsD F v d → IsD G v d
  | .none, _, h => by cases h; exact .non
  | .bool b, _, h => by cases h; exact .bl b
  | .int i, _, h => by cases h; exact .int i
  | .str s, _, h => by cases h; exact .str s
  | .list ds, _, h => by
    cases h with
    | lst e a => exact .lst (x _ _ e) (isds_mono x ds _ a)
  | .tuple ds, _, h => by
    cases h with
    | tup e a => exact .tup (x _ _ e) (isds_mono x ds _ a)
  | .dict _, _, h => by cases h
theorem isds_mono {F G : Hp} (x : Ex F G) : ∀ (ds : List D) (vs : List V), IsDs F vs ds → IsDs G vs ds
  | [], _, h => by cases h; exact .nil
  | d :: ds, _, h => by
    cases h with
    | cons a b => exact .cons (isd_mono x d _ a) (isds_mono x ds _ b)
end
theorem IsD.mono {F G : Hp} {v : V} {d : D} (h : IsD F v d) (x : Ex F G) : IsD G v d := isd_mono x d v h
theorem IsDs.mono {F G : Hp} {v : List V} {d : List D} (h : IsDs F v d) (x : Ex F G) : IsDs G v d := isds_mono x d v h
mutual
theorem isd_dp {K : PySem.W.Frag} {F G : Hp} (x : Ex F G) : ∀ (d : D) (v : V), IsD F v d → Dp K G v d
  | .none, _, h => by cases h; exact .non
  | .bool b, _, h => by cases h; exact .bl b
  | .int i, _, h => by cases h; exact .int i
  | .str s, _, h => by cases h; exact .str s
  | .list ds, _, h => by
    cases h with
    | lst e a => exact .lst (SqL.of (x _ _ e)) (isds_dp x ds _ a)
  | .tuple ds, _, h => by
    cases h with
    | tup e a => exact .tup (SqT.of (x _ _ e)) (isds_dp x ds _ a)
  | .dict _, _, h => by cases h
theorem isds_dp {K : PySem.W.Frag} {F G : Hp} (x : Ex F G) : ∀ (ds : List D) (vs : List V), IsDs F vs ds → DpAll K G vs ds
  | [], _, h => by cases h; exact .nil
  | d :: ds, _, h => by
    cases h with
    | cons a b => exact .cons (isd_dp x d _ a) (isds_dp x ds _ b)
end
theorem IsDs.length {F : Hp} : ∀ {vs : List V} {ds : List D}, IsDs F vs ds → vs.length = ds.length
  | _, _, .nil => rfl
  | _, _, .cons _ b => by rw [List.length_cons, List.length_cons, IsDs.length b]
theorem IsDs.append {F : Hp} : ∀ {vs us : List V} {ds es : List D}, IsDs F vs ds → IsDs F us es → IsDs F (vs ++ us) (ds ++ es)
  | _, _, _, _, .nil, h => h
  | _, _, _, _, .cons a b, h => .cons a (IsDs.append b h)
theorem IsDs.get {F : Hp} : ∀ {vs : List V} {ds : List D} {i : Nat} {d : D}, IsDs F vs ds → ds[i]? = some d → ∃ v, vs[i]? = some v ∧ IsD F v d
  | _, _, _, _, .nil, e => by simp at e
  | _, _, 0, _, .cons a _, e => by simp at e; subst e; exact ⟨_, rfl, a⟩
  | _, _, i + 1, _, .cons _ b, e => by
    obtain ⟨v, h1, h2⟩ := IsDs.get (i := i) b (by simpa using e)
    exact ⟨v, by simpa using h1, h2⟩
theorem IsDs.take {F : Hp} : ∀ {vs : List V} {ds : List D} (n : Nat), IsDs F vs ds → IsDs F (vs.take n) (ds.take n)
  | _, _, 0, _ => .nil
  | _, _, _ + 1, .nil => .nil
  | _, _, n + 1, .cons a b => .cons a (IsDs.take n b)
theorem IsDs.drop {F : Hp} : ∀ {vs : List V} {ds : List D} (n : Nat), IsDs F vs ds → IsDs F (vs.drop n) (ds.drop n)
  | _, _, 0, h => h
  | _, _, _ + 1, .nil => .nil
  | _, _, n + 1, .cons _ b => IsDs.drop n b
theorem IsDs.set {F : Hp} {v : V} {d : D} (r : IsD F v d) : ∀ {vs : List V} {ds : List D} (i : Nat), IsDs F vs ds → IsDs F (vs.set i v) (ds.set i d)
  | _, _, _, .nil => .nil
  | _, _, 0, .cons _ b => .cons r b
  | _, _, i + 1, .cons a b => .cons a (IsDs.set r i b)
theorem IsDs.ints {F : Hp} : ∀ (ns : List Int), IsDs F (ns.map V.int) (ns.map PyData.int)
  | [] => .nil
  | n :: ns => .cons (.int n) (IsDs.ints ns)
theorem IsDs.toInts {F : Hp} : ∀ {ns : List Int} {vs : List V}, IsDs F vs (ns.map PyData.int) → vs = ns.map V.int
  | [], _, h => by cases h; rfl
  | n :: ns, _, h => by
    cases h with
    | cons a b => cases a; rw [IsDs.toInts b]; rfl
theorem IsDs.toBools {F : Hp} : ∀ {ns : List Bool} {vs : List V}, IsDs F vs (ns.map PyData.bool) → vs = ns.map V.bl
  | [], _, h => by cases h; rfl
  | n :: ns, _, h => by
    cases h with
    | cons a b => cases a; rw [IsDs.toBools b]; rfl

/-! ### errors, the law's own state, cells -/
inductive Er where
  | na | tl | ms | bp | bf (n : Int)
  deriving DecidableEq
/-- the classes of the errors; whether the law's state stands, and where -/
structure Sg where
  K : PySem.W.Frag
  cls : Er → Value
  on : Bool
  st : Addr
  nu : Addr
  nums : List Int
/-- all is kept but the law's state -/
def Fr (S : Sg) (H H' : Hp) : Prop := ∀ a o, H a = some o → (S.on = true → a ≠ S.st) → H' a = some o
theorem Fr.rfl' {S : Sg} {H : Hp} : Fr S H H := fun _ _ h _ => h
theorem Fr.tr {S : Sg} {A B C : Hp} (x : Fr S A B) (y : Fr S B C) : Fr S A C := fun a o h n => y a o (x a o h n) n
theorem Fr.nw {S : Sg} {H : Hp} {p : Addr} {o : HO} (h : H p = none) : Fr S H (upd H p o) := fun a u e _ => Ex.nw h a u e
theorem Fr.of {S : Sg} {A B : Hp} (x : Ex A B) : Fr S A B := fun a o h _ => x a o h
theorem Fr.over {S : Sg} {A B : Hp} {p : Addr} {o : HO} (x : Fr S A B) (h : A p = none) : Fr S A (upd B p o) := fun a u e n => by
  rw [upd_ne (ne_of_none e h)]; exact x a u e n
/-- what has come about: all kept, and what is new for ever is new -/
structure Go (S : Sg) (F H F' H' : Hp) : Prop where
  fr : Fr S H H'
  nw : ∀ a o, F' a = some o → F a = some o ∨ H a = none
theorem Go.rfl' {S : Sg} {F H : Hp} : Go S F H F H := ⟨Fr.rfl', fun _ _ e => .inl e⟩
theorem Go.new {S : Sg} {F H : Hp} {p : Addr} {o : HO} (h : H p = none) : Go S F H (upd F p o) (upd H p o) := ⟨Fr.nw h, fun a u e => by
  by_cases z : a = p
  · exact .inr (by rw [z]; exact h)
  · rw [upd_ne z] at e; exact .inl e⟩
theorem Go.tmp {S : Sg} {F H : Hp} {p : Addr} {o : HO} (h : H p = none) : Go S F H F (upd H p o) := ⟨Fr.nw h, fun _ _ e => .inl e⟩
/-- what is drawn so far, and how much may still be drawn -/
def drawLid : Int := 1000000000000000000
structure StOk (S : Sg) (F H : Hp) (b : Nat) : Prop where
  out : S.on = true → F S.st = none
  nu : S.on = true → F S.nu = some (.lst (S.nums.map V.int))
  at_ : S.on = true → ∃ g : Int, 0 ≤ g ∧ g + b ≤ drawLid ∧ H S.st = some (.lst [.ref S.nu, .int g])
  some_ : S.on = true → 0 < S.nums.length ∧ S.nums.length ≤ 10000 ∧ ∀ n ∈ S.nums, 0 ≤ n ∧ n < 2000000000
/-- a name's content -/
inductive Cell where
  | val (d : D)
  | st
  | own (ds : List D)
  | dk (kvs : List (Key × D))
  | dt (kvs : List (List Key × D))
  | lk (a : Addr) (kvs : List (Key × D))
  | lt (a : Addr) (kvs : List (List Key × D))
  | ro (ns : List Int)
abbrev Env := List (Option Cell)
def Cell.isOwn : Cell → Bool
  | .val _ => false
  | .st => false
  | .own _ => true
  | .dk _ => true
  | .dt _ => true
  | .lk _ _ => false
  | .lt _ _ => false
  | .ro _ => false
/-- an object of this call's own, that may change -/
structure Own (S : Sg) (H0 F : Hp) (a : Addr) : Prop where
  nf : F a = none
  n0 : H0 a = none
  ns : S.on = true → a ≠ S.st
def KvOk {κ : Type} (F : Hp) : List (κ × V) → List (κ × D) → Prop := Paired fun p q => p.1 = q.1 ∧ IsD F p.2 q.2
theorem KvOk.mono {κ : Type} {F G : Hp} (x : Ex F G) : ∀ {l : List (κ × V)} {m : List (κ × D)}, KvOk F l m → KvOk G l m
  | _, _, .nil => .nil
  | _, _, .cons r t => .cons ⟨r.1, r.2.mono x⟩ (KvOk.mono x t)
def CellOk (S : Sg) (H0 F H : Hp) (v : V) : Cell → Prop
  | .val d => IsD F v d
  | .st => S.on = true ∧ v = .ref S.st
  | .own ds => ∃ a vs, v = .ref a ∧ Own S H0 F a ∧ H a = some (.lst vs) ∧ IsDs F vs ds
  | .dk kvs => ∃ a ks, v = .ref a ∧ Own S H0 F a ∧ H a = some (.dK ks) ∧ KvOk F ks kvs
  | .dt kvs => ∃ a ks, v = .ref a ∧ Own S H0 F a ∧ H a = some (.dT ks) ∧ KvOk F ks kvs
  | .lk a kvs => v = .ref a ∧ ∃ o ks, F a = some (.frz o (.dK ks)) ∧ KvOk F ks kvs
  | .lt a kvs => v = .ref a ∧ ∃ o ks, F a = some (.frz o (.dT ks)) ∧ KvOk F ks kvs
  | .ro ns => ∃ a, v = .ref a ∧ ∀ H', Ex F H' → SqL S.K H' a (ns.map V.int)
/-- an object of one's own has an address -/
theorem CellOk.adr {S : Sg} {H0 F H : Hp} {v : V} {c : Cell} (h : CellOk S H0 F H v c) (o : c.isOwn = true) : ∃ a u, v = .ref a ∧ Own S H0 F a ∧ H a = some u := by
  cases c with
  | val d => cases o
  | st => cases o
  | own ds => obtain ⟨a, vs, e, w, q, _⟩ := h; exact ⟨a, _, e, w, q⟩
  | dk ds => obtain ⟨a, vs, e, w, q, _⟩ := h; exact ⟨a, _, e, w, q⟩
  | dt ds => obtain ⟨a, vs, e, w, q, _⟩ := h; exact ⟨a, _, e, w, q⟩
  | lk a ds => cases o
  | lt a ds => cases o
  | ro ns => cases o
/-- the heap goes on, this object as it was -/
theorem CellOk.go {S : Sg} {H0 F H F' H' : Hp} {v : V} {c : Cell} (h : CellOk S H0 F H v c) (x : Ex F F') (k : c.isOwn = true → ∀ a, v = .ref a → Own S H0 F a → F' a = none ∧ ∀ u, H a = some u → H' a = some u) : CellOk S H0 F' H' v c := by
  cases c with
  | val d => exact IsD.mono h x
  | st => exact h
  | own ds =>
    obtain ⟨a, vs, e, w, q, r⟩ := h
    obtain ⟨k1, k2⟩ := k rfl a e w
    exact ⟨a, vs, e, ⟨k1, w.n0, w.ns⟩, k2 _ q, r.mono x⟩
  | dk ds =>
    obtain ⟨a, vs, e, w, q, r⟩ := h
    obtain ⟨k1, k2⟩ := k rfl a e w
    exact ⟨a, vs, e, ⟨k1, w.n0, w.ns⟩, k2 _ q, r.mono x⟩
  | dt ds =>
    obtain ⟨a, vs, e, w, q, r⟩ := h
    obtain ⟨k1, k2⟩ := k rfl a e w
    exact ⟨a, vs, e, ⟨k1, w.n0, w.ns⟩, k2 _ q, r.mono x⟩
  | lk a ds =>
    obtain ⟨e, o, vs, q, r⟩ := h
    exact ⟨e, o, vs, x _ _ q, r.mono x⟩
  | lt a ds =>
    obtain ⟨e, o, vs, q, r⟩ := h
    exact ⟨e, o, vs, x _ _ q, r.mono x⟩
  | ro ns =>
    obtain ⟨a, e, q⟩ := h
    exact ⟨a, e, fun H2 y => q H2 (x.tr y)⟩
/-- a call's entry: what stood for ever, what stood -/
structure Ent where
  f : Hp
  h : Hp
/-- names and heap, told by data: F is the part of the heap that never changes -/
structure Rel (S : Sg) (H0 : Ent) (δ : Env) (σ : Sl) (F H : Hp) (b : Nat) : Prop where
  len : σ.length = δ.length
  sub : Ex F H
  fr : Fr S H0.h H
  nw : ∀ a o, F a = some o → H0.f a = some o ∨ H0.h a = none
  sto : StOk S F H b
  cell : ∀ (i : Nat) (c : Cell), δ[i]? = some (some c) → ∃ v, σ[i]? = some (some v) ∧ CellOk S H0.h F H v c
  sep : ∀ (i j : Nat) (c c' : Cell), i ≠ j → δ[i]? = some (some c) → δ[j]? = some (some c') → c.isOwn = true → c'.isOwn = true → σ[i]? ≠ σ[j]?
section
variable {S : Sg} {H0 : Ent} {δ : Env} {σ : Sl} {F H : Hp} {b : Nat} {p : Addr} {o : HO}
theorem StOk.here (x : StOk S F H b) (h : H p = none) : S.on = true → p ≠ S.st := fun q z => by
  obtain ⟨g, _, _, e⟩ := x.at_ q
  rw [z, e] at h; cases h
theorem StOk.new (x : StOk S F H b) (sub : Ex F H) (h : H p = none) : StOk S (upd F p o) (upd H p o) b := by
  have hn : S.on = true → S.st ≠ p := fun q => Ne.symm (x.here h q)
  refine ⟨fun q => ?_, fun q => ?_, fun q => ?_, x.some_⟩
  · rw [upd_ne (hn q)]; exact x.out q
  · exact Ex.nw (sub.free h) _ _ (x.nu q)
  · obtain ⟨g, h1, h2, e⟩ := x.at_ q
    exact ⟨g, h1, h2, by rw [upd_ne (hn q)]; exact e⟩
theorem StOk.tmp (x : StOk S F H b) (h : H p = none) : StOk S F (upd H p o) b := by
  have hn : S.on = true → S.st ≠ p := fun q => Ne.symm (x.here h q)
  refine ⟨x.out, x.nu, fun q => ?_, x.some_⟩
  obtain ⟨g, h1, h2, e⟩ := x.at_ q
  exact ⟨g, h1, h2, by rw [upd_ne (hn q)]; exact e⟩
theorem Fr.free {A B : Hp} (x : Fr S A B) (sb : StOk S F B b) (h : B p = none) : A p = none := by
  cases q : A p with
  | none => rfl
  | some o => rw [x p o q (sb.here h)] at h; cases h
theorem Go.tr {F0 H0 F1 H1 F2 H2 : Hp} {b : Nat} (x : Go S F0 H0 F1 H1) (so : StOk S F1 H1 b) (y : Go S F1 H1 F2 H2) : Go S F0 H0 F2 H2 := ⟨x.fr.tr y.fr, fun a o e => by
  rcases y.nw a o e with z | z
  · exact x.nw a o z
  · exact .inr (x.fr.free so z)⟩
/-- the same names, the heap goes on -/
theorem Rel.go {F' H' : Hp} {b' : Nat} (R : Rel S H0 δ σ F H b) (x : Ex F F') (s : Ex F' H') (f : Fr S H H') (so : StOk S F' H' b') (nw : ∀ a o, F' a = some o → F a = some o ∨ H a = none) : Rel S H0 δ σ F' H' b' := by
  have nf : ∀ (a : Addr) (u : HO), F a = none → H a = some u → F' a = none := fun a u h1 h2 => by
    cases q : F' a with
    | none => rfl
    | some o =>
      rcases nw a o q with z | z
      · rw [h1] at z; cases z
      · rw [h2] at z; cases z
  refine ⟨R.len, s, R.fr.tr f, fun a o e => ?_, so, fun i c e => ?_, R.sep⟩
  · rcases nw a o e with z | z
    · exact R.nw a o z
    · exact .inr (R.fr.free R.sto z)
  obtain ⟨v, e1, h⟩ := R.cell i c e
  refine ⟨v, e1, h.go x fun q a ea w => ⟨?_, fun u hu => f a u hu w.ns⟩⟩
  subst ea
  obtain ⟨a', u, ea, w', hu⟩ := h.adr q
  have := V.ref.inj ea
  subst this
  exact nf a u w'.nf hu
theorem Rel.ownAt (R : Rel S H0 δ σ F H b) {i : Nat} {c : Cell} {a : Addr} (e : δ[i]? = some (some c)) (q : c.isOwn = true) (e1 : σ[i]? = some (some (.ref a))) : Own S H0.h F a ∧ ∃ u, H a = some u := by
  obtain ⟨v, e2, h⟩ := R.cell i c e
  rw [e1] at e2
  have e3 : V.ref a = v := Option.some.inj (Option.some.inj e2)
  subst e3
  obtain ⟨a', u, ea, w, hu⟩ := h.adr q
  have := V.ref.inj ea
  subst this
  exact ⟨w, u, hu⟩
/-- a new object that never changes -/
theorem Rel.new (R : Rel S H0 δ σ F H b) (h : H p = none) : Rel S H0 δ σ (upd F p o) (upd H p o) b :=
  R.go (Ex.nw (R.sub.free h)) R.sub.both (Fr.nw h) (R.sto.new R.sub h) fun a u e => by
    by_cases z : a = p
    · exact .inr (by rw [z]; exact h)
    · rw [upd_ne z] at e; exact .inl e
/-- a new object that may change -/
theorem Rel.tmp (R : Rel S H0 δ σ F H b) (h : H p = none) : Rel S H0 δ σ F (upd H p o) b :=
  R.go Ex.rfl' (R.sub.over (R.sub.free h)) (Fr.nw h) (R.sto.tmp h) fun a u e => .inl e
/-- an object that nobody will change -/
theorem Rel.frz {F1 H1 : Hp} {b1 : Nat} (R1 : Rel S H0 δ σ F1 H1 b1) (hp : H1 p = none) {F' H' : Hp} {b' : Nat} (R : Rel S H0 δ σ F' H' b') (h : H' p = some o) (hf : F' p = none) : Rel S H0 δ σ (upd F' p o) H' b' := by
  have ns : S.on = true → S.st ≠ p := fun q => Ne.symm (R1.sto.here hp q)
  have h0 : H0.h p = none := R1.fr.free R1.sto hp
  have ex : Ex F' (upd F' p o) := Ex.nw hf
  refine ⟨R.len, fun a u e => ?_, R.fr, fun a u e => ?_, ⟨fun q => ?_, fun q => ex _ _ (R.sto.nu q), R.sto.at_, R.sto.some_⟩, fun i c e => ?_, R.sep⟩
  · by_cases z : a = p
    · subst z; rw [upd_same] at e; cases e; exact h
    · rw [upd_ne z] at e; exact R.sub a u e
  · by_cases z : a = p
    · exact .inr (by rw [z]; exact h0)
    · rw [upd_ne z] at e; exact R.nw a u e
  · rw [upd_ne (ns q)]; exact R.sto.out q
  · obtain ⟨v, e1, k⟩ := R.cell i c e
    refine ⟨v, e1, ?_⟩
    cases q : c.isOwn with
    | true =>
      obtain ⟨a, u, ea, w, hu⟩ := k.adr q
      subst ea
      obtain ⟨_, u1, hu1⟩ := R1.ownAt e q e1
      refine k.go ex fun _ a' ea w' => ?_
      have := V.ref.inj ea
      subst this
      exact ⟨by rw [upd_ne (ne_of_none hu1 hp)]; exact w'.nf, fun _ z => z⟩
    | false => exact k.go ex fun z => by rw [q] at z; cases z
end

/-! ### predicate transformers over data; b: how much may still be drawn -/
abbrev Wp (α : Type) := Nat → (Except Er α → Nat → Prop) → Prop
def wret {α : Type} (x : α) : Wp α := fun b R => R (.ok x) b
def wbind {α β : Type} (m : Wp α) (k : α → Wp β) : Wp β := fun b R => m b fun r b' => match r with
  | .ok x => k x b' R
  | .error e => R (.error e) b'

section
variable {α β γ α' β' : Type}
/-- what follows: Q behind a value, W behind an error -/
structure Post (S : Sg) (W : WX) (Ok : Hp → Hp → Hp → β → α → Prop) (H0 : Ent) (δ : Env) (σ : Sl) (F H : Hp) (R : Except Er α → Nat → Prop) (Q : β → Hp → Prop) : Prop where
  ok : ∀ (x : α) (b' : Nat), R (.ok x) b' → ∀ (y : β) (F' H' : Hp), Rel S H0 δ σ F' H' b' → Ex F F' → Go S F H F' H' → Ok H F' H' y x → Q y H'
  er : ∀ (e : Er) (b' : Nat), R (.error e) b' → ∀ (F' H' : Hp), Rel S H0 δ σ F' H' b' → Ex F F' → Go S F H F' H' → W (S.cls e) none σ H'
/-- a reading t denotes f -/
def DG (S : Sg) (W : WX) (Ok : Hp → Hp → Hp → β → α → Prop) (t : Sl → Hp → (β → Hp → Prop) → Prop) (f : Env → Wp α) : Prop :=
  ∀ (H0 : Ent) (δ : Env) (σ : Sl) (F H : Hp) (b : Nat) (R : Except Er α → Nat → Prop) (Q : β → Hp → Prop), Rel S H0 δ σ F H b → f δ b R → Post S W Ok H0 δ σ F H R Q → t σ H Q
/-- a value's kind: told again at a former heap -/
def Back (Ok : Hp → Hp → Hp → β → α → Prop) : Prop := ∀ (H H1 F' H' : Hp) (y : β) (x : α), (∀ p, H1 p = none → H p = none) → Ok H1 F' H' y x → Ok H F' H' y x
/-- it stays -/
def Fwd (S : Sg) (Ok : Hp → Hp → Hp → β → α → Prop) : Prop := ∀ (H F1 H1 F2 H2 : Hp) (y : β) (x : α), Ex F1 F2 → Fr S H1 H2 → Ok H F1 H1 y x → Ok H F2 H2 y x
variable {S : Sg} {W : WX} {Ok : Hp → Hp → Hp → β → α → Prop} {Ok' : Hp → Hp → Hp → β' → α' → Prop}
theorem Post.at_ {H0 : Ent} {δ : Env} {σ : Sl} {F H F1 H1 : Hp} {b : Nat} {R : Except Er α → Nat → Prop} {Q : β → Hp → Prop} (P : Post S W Ok H0 δ σ F H R Q) (bk : Back Ok) (R1 : Rel S H0 δ σ F1 H1 b) (x : Ex F F1) (f : Go S F H F1 H1) : Post S W Ok H0 δ σ F1 H1 R Q :=
  ⟨fun d b' r y F' H' q e g o => P.ok d b' r y F' H' q (x.tr e) (f.tr R1.sto g) (bk H H1 F' H' y d (fun p hp => f.fr.free R1.sto hp) o), fun d b' r F' H' q e g => P.er d b' r F' H' q (x.tr e) (f.tr R1.sto g)⟩
/-- one reading, then another -/
theorem dg_seq {t1 : Sl → Hp → (β' → Hp → Prop) → Prop} {f1 : Env → Wp α'} {t2 : β' → Sl → Hp → (β → Hp → Prop) → Prop} {f2 : α' → Env → Wp α} (h1 : DG S W Ok' t1 f1) (bk : Back Ok)
    (h2 : ∀ (H0 : Ent) (δ : Env) (σ : Sl) (Hp0 F H : Hp) (b : Nat) (R : Except Er α → Nat → Prop) (Q : β → Hp → Prop) (y : β') (x : α'), Rel S H0 δ σ F H b → Ok' Hp0 F H y x → f2 x δ b R → Post S W Ok H0 δ σ F H R Q → t2 y σ H Q) :
    DG S W Ok (fun σ H Q => t1 σ H fun y H1 => t2 y σ H1 Q) (fun δ => wbind (f1 δ) fun x => f2 x δ) := by
  intro H0 δ σ F H b R Q rel hf P
  refine h1 H0 δ σ F H b _ _ rel hf ⟨fun x b' r y F' H' q e g o => ?_, fun e b' r F' H' q x g => P.er e b' r F' H' q x g⟩
  exact h2 H0 δ σ H F' H' b' R Q y x q o r (P.at_ bk q e g)
theorem dg_ret {t : Sl → Hp → (β → Hp → Prop) → Prop} {x : α} (h : ∀ (H0 : Ent) (δ : Env) (σ : Sl) (F H : Hp) (b : Nat) (Q : β → Hp → Prop), Rel S H0 δ σ F H b → (∀ (y : β) (F' H' : Hp), Rel S H0 δ σ F' H' b → Ex F F' → Go S F H F' H' → Ok H F' H' y x → Q y H') → t σ H Q) : DG S W Ok t (fun _ => wret x) := by
  intro H0 δ σ F H b R Q rel hf P
  exact h H0 δ σ F H b Q rel fun y F' H' q e g o => P.ok x b hf y F' H' q e g o
theorem Post.now {H0 : Ent} {δ : Env} {σ : Sl} {F H : Hp} {b : Nat} {R : Except Er α → Nat → Prop} {Q : β → Hp → Prop} (P : Post S W Ok H0 δ σ F H R Q) (rel : Rel S H0 δ σ F H b) {x : α} {y : β} (r : R (.ok x) b) (o : Ok H F H y x) : Q y H :=
  P.ok x b r y F H rel Ex.rfl' Go.rfl' o
end

/-! ### the kinds of values -/
/-- data that stand -/
def OkV : Hp → Hp → Hp → V → D → Prop := fun _ F _ v d => IsD F v d
/-- data, or a list of this call's own -/
def OkT (S : Sg) : Hp → Hp → Hp → V → D → Prop := fun _ F H v d => IsD F v d ∨ ∃ a vs ds, v = .ref a ∧ d = .list ds ∧ H a = some (.lst vs) ∧ IsDs F vs ds ∧ (S.on = true → a ≠ S.st)
/-- a list just made -/
def OkF : Hp → Hp → Hp → V → List D → Prop := fun H0 F H v ds => ∃ p vs, v = .ref p ∧ H0 p = none ∧ H p = some (.lst vs) ∧ F p = none ∧ IsDs F vs ds
def OkB : Hp → Hp → Hp → Bool → Bool → Prop := fun _ _ _ b c => b = c
/-- what an argument is -/
def ArgOk (S : Sg) (F : Hp) (v : V) : Cell → Prop
  | .val d => IsD F v d
  | .st => S.on = true ∧ v = .ref S.st
  | .ro ns => ∃ a, v = .ref a ∧ ∀ H', Ex F H' → SqL S.K H' a (ns.map V.int)
  | _ => False
def OkC (S : Sg) : Hp → Hp → Hp → V → Cell → Prop := fun _ F _ v c => ArgOk S F v c
def ArgsOk (S : Sg) (F : Hp) : List V → List Cell → Prop := Paired fun v c => ArgOk S F v c
def OkA (S : Sg) : Hp → Hp → Hp → List V → List Cell → Prop := fun _ F _ vs cs => ArgsOk S F vs cs
def OkL : Hp → Hp → Hp → List V → List D → Prop := fun _ F _ vs cs => IsDs F vs cs
theorem back_V : Back OkV := fun _ _ _ _ _ _ _ h => h
theorem back_T {S : Sg} : Back (OkT S) := fun _ _ _ _ _ _ _ h => h
theorem back_F : Back OkF := fun _ _ _ _ _ _ k ⟨p, vs, e, n, q⟩ => ⟨p, vs, e, k p n, q⟩
theorem back_B : Back OkB := fun _ _ _ _ _ _ _ h => h
theorem back_C {S : Sg} : Back (OkC S) := fun _ _ _ _ _ _ _ h => h
theorem back_A {S : Sg} : Back (OkA S) := fun _ _ _ _ _ _ _ h => h
theorem back_L : Back OkL := fun _ _ _ _ _ _ _ h => h
theorem ArgOk.mono {S : Sg} {F G : Hp} {v : V} {c : Cell} (h : ArgOk S F v c) (x : Ex F G) : ArgOk S G v c := by
  cases c with
  | val d => exact IsD.mono h x
  | st => exact h
  | own ds => exact h
  | dk ds => exact h
  | dt ds => exact h
  | lk a ds => exact h
  | lt a ds => exact h
  | ro ns =>
    obtain ⟨a, e, q⟩ := h
    exact ⟨a, e, fun H2 y => q H2 (x.tr y)⟩
theorem ArgsOk.mono {S : Sg} {F G : Hp} (x : Ex F G) : ∀ {vs : List V} {cs : List Cell}, ArgsOk S F vs cs → ArgsOk S G vs cs
  | _, _, .nil => .nil
  | _, _, .cons r t => .cons (r.mono x) (ArgsOk.mono x t)
theorem fwd_V {S : Sg} : Fwd S OkV := fun _ _ _ _ _ _ _ x _ h => h.mono x
theorem fwd_T {S : Sg} : Fwd S (OkT S) := fun _ _ _ _ _ _ _ x f h => by
  rcases h with h | ⟨a, vs, ds, e1, e2, e3, e4, e5⟩
  · exact .inl (h.mono x)
  · exact .inr ⟨a, vs, ds, e1, e2, f a _ e3 e5, e4.mono x, e5⟩
theorem fwd_C {S : Sg} : Fwd S (OkC S) := fun _ _ _ _ _ _ _ x _ h => h.mono x
theorem fwd_A {S : Sg} : Fwd S (OkA S) := fun _ _ _ _ _ _ _ x _ h => ArgsOk.mono x h
theorem fwd_B {S : Sg} : Fwd S OkB := fun _ _ _ _ _ _ _ _ _ h => h
theorem fwd_L {S : Sg} : Fwd S OkL := fun _ _ _ _ _ _ _ x _ h => h.mono x

section
variable {S : Sg} {W : WX}
theorem dg_VT {t : TE} {f : Env → Wp D} (h : DG S W OkV t f) : DG S W (OkT S) t f := fun H0 δ σ F H b R Q rel hf P =>
  h H0 δ σ F H b R Q rel hf ⟨fun x b' r y F' H' q e g o => P.ok x b' r y F' H' q e g (.inl o), P.er⟩
/-- a new list, as data that nobody will change -/
def wlst (f : Env → Wp (List D)) : Env → Wp D := fun δ => wbind (f δ) fun ds => wret (.list ds)
theorem dg_FV {t : TE} {f : Env → Wp (List D)} (h : DG S W OkF t f) : DG S W OkV t (wlst f) := fun H0 δ σ F H b R Q rel hf P =>
  h H0 δ σ F H b _ Q rel hf ⟨fun x b' r y F' H' q e g o => by
    obtain ⟨p, vs, rfl, n, hp, hn, hd⟩ := o
    have q' := Rel.frz rel n q hp hn
    have ex : Ex F' (upd F' p (.lst vs)) := Ex.nw hn
    exact P.ok (.list x) b' r (.ref p) _ H' q' (e.tr ex) ⟨g.fr, fun a u z => by
      by_cases zz : a = p
      · exact .inr (by rw [zz]; exact n)
      · rw [upd_ne zz] at z; exact g.nw a u z⟩ (.lst upd_same (hd.mono ex)), P.er⟩
theorem dg_FT {t : TE} {f : Env → Wp (List D)} (h : DG S W OkF t f) : DG S W (OkT S) t (wlst f) := dg_VT (dg_FV h)
end
end BB
set_option Elab.async false
set_option linter.all false
set_option maxRecDepth 100000
set_option autoImplicit false
set_option maxHeartbeats 2000000
/-! Bb2: expressions: names, constants, operators, comparisons, tests, displays, subscripts. -/
namespace BB
open PySem PySem.Spec PyProof.Rows L2

/-- what a body's context must bear -/
structure Cxt (X : Cx) (S : Sg) (W : WX) (k : Nat) : Prop where
  kS : S.K = X.K
  calm : X.calm = true
  nd : X.N.Nodup
  room : Room k X.A
  gd : X.A.guards = some []
  tk : L2N.Takes X W
  pass : PassesOwn (model X.prog X.w) X.A X.env X.xe
theorem Cxt.hu {X : Cx} {S : Sg} {W : WX} {k : Nat} (G : Cxt X S W k) : X.A.units + 200 ≤ cLine := by
  have := G.room.un; omega
theorem Cxt.hu1 {X : Cx} {S : Sg} {W : WX} {k : Nat} (G : Cxt X S W k) : X.A.units + 1 < cLine := by
  have := G.room.un; omega
theorem Cxt.hu64 {X : Cx} {S : Sg} {W : WX} {k : Nat} (G : Cxt X S W k) : X.A.units + 64 < cLine := by
  have := G.room.un; omega
theorem Cxt.hu65 {X : Cx} {S : Sg} {W : WX} {k : Nat} (G : Cxt X S W k) : X.A.units + 65 < cLine := by
  have := G.room.un; omega
theorem Cxt.mono {X : Cx} {S : Sg} {W : WX} {j k : Nat} (G : Cxt X S W k) (h : j ≤ k) : Cxt X S W j := ⟨G.kS, G.calm, G.nd, G.room.mono h, G.gd, G.tk, G.pass⟩
/-- no exception is wished -/
abbrev W0 : WX := fun _ _ _ _ => False

def EX (X : Cx) (S : Sg) (W : WX) (e : Expr) (f : Env → Wp D) : Prop := ∃ te, PE X e te ∧ DG S W OkV te f
def ET (X : Cx) (S : Sg) (W : WX) (e : Expr) (f : Env → Wp D) : Prop := ∃ te, PE X e te ∧ DG S W (OkT S) te f
def EF (X : Cx) (S : Sg) (W : WX) (e : Expr) (f : Env → Wp (List D)) : Prop := ∃ te, PE X e te ∧ DG S W OkF te f
def EC (X : Cx) (S : Sg) (W : WX) (e : Expr) (f : Env → Wp Cell) : Prop := ∃ te, PE X e te ∧ DG S W (OkC S) te f
def BX (X : Cx) (S : Sg) (W : WX) (e : Expr) (f : Env → Wp Bool) : Prop := ∃ tt, PT X e tt ∧ DG S W OkB tt f
def BW (X : Cx) (S : Sg) (W : WX) (e : Expr) (f : Env → Wp Bool) : Prop := ∃ tt, PW X e tt ∧ DG S W OkB tt f
def AX (X : Cx) (S : Sg) (W : WX) (es : List Expr) (f : Env → Wp (List Cell)) : Prop := ∃ ta, PA X es ta ∧ DG S W (OkA S) ta f
def LX (X : Cx) (S : Sg) (W : WX) (es : List Expr) (f : Env → Wp (List D)) : Prop := ∃ ta, PA X es ta ∧ DG S W OkL ta f

section
variable {X : Cx} {S : Sg} {W : WX} {k : Nat} {e a b c : Expr} {pos : Pos}
theorem EX.t {f : Env → Wp D} (h : EX X S W e f) : ET X S W e f := let ⟨te, p, q⟩ := h; ⟨te, p, dg_VT q⟩
theorem EF.v {f : Env → Wp (List D)} (h : EF X S W e f) : EX X S W e (wlst f) := let ⟨te, p, q⟩ := h; ⟨te, p, dg_FV q⟩
theorem EF.t {f : Env → Wp (List D)} (h : EF X S W e f) : ET X S W e (wlst f) := h.v.t
/-- an argument that is data -/
def warg (f : Env → Wp D) : Env → Wp Cell := fun δ => wbind (f δ) fun d => wret (.val d)
theorem EX.arg {f : Env → Wp D} (h : EX X S W e f) : EC X S W e (warg f) := by
  obtain ⟨te, p, q⟩ := h
  refine ⟨te, p, fun H0 δ σ F H b R Q rel hf P => q H0 δ σ F H b _ Q rel hf ⟨fun x b' r y F' H' q' ex g o => P.ok (.val x) b' r y F' H' q' ex g o, P.er⟩⟩

/-! ### names, constants -/
def wvar (i : Nat) : Env → Wp D := fun δ b R => match δ[i]? with
  | some (some (.val d)) => R (.ok d) b
  | _ => False
/-- a name that may hold a list of one's own -/
def wvarT (i : Nat) : Env → Wp D := fun δ b R => match δ[i]? with
  | some (some (.val d)) => R (.ok d) b
  | some (some (.own ds)) => R (.ok (.list ds)) b
  | _ => False
def wvarC (i : Nat) : Env → Wp Cell := fun δ b R => match δ[i]? with
  | some (some (.val d)) => R (.ok (.val d)) b
  | some (some .st) => R (.ok .st) b
  | some (some (.ro ns)) => R (.ok (.ro ns)) b
  | _ => False
theorem ex_var {i : Nat} (h : PE X e (tVar i)) : EX X S W e (wvar i) := by
  refine ⟨_, h, fun H0 δ σ F H b R Q rel hf P => ?_⟩
  unfold wvar at hf
  split at hf
  · rename_i d hd
    obtain ⟨v, e1, o⟩ := rel.cell i _ hd
    exact ⟨v, e1, P.now rel hf o⟩
  · exact hf.elim
theorem et_var {i : Nat} (h : PE X e (tVar i)) : ET X S W e (wvarT i) := by
  refine ⟨_, h, fun H0 δ σ F H b R Q rel hf P => ?_⟩
  unfold wvarT at hf
  split at hf
  · rename_i d hd
    obtain ⟨v, e1, o⟩ := rel.cell i _ hd
    exact ⟨v, e1, P.now rel hf (.inl o)⟩
  · rename_i ds hd
    obtain ⟨v, e1, o⟩ := rel.cell i _ hd
    obtain ⟨p, vs, rfl, w, hp, q⟩ := o
    exact ⟨_, e1, P.now rel hf (.inr ⟨p, vs, ds, rfl, rfl, hp, q, w.ns⟩)⟩
  · exact hf.elim
theorem ec_var {i : Nat} (h : PE X e (tVar i)) : EC X S W e (wvarC i) := by
  refine ⟨_, h, fun H0 δ σ F H b R Q rel hf P => ?_⟩
  unfold wvarC at hf
  split at hf
  · rename_i d hd
    obtain ⟨v, e1, o⟩ := rel.cell i _ hd
    exact ⟨v, e1, P.now rel hf o⟩
  · rename_i hd
    obtain ⟨v, e1, o⟩ := rel.cell i _ hd
    exact ⟨v, e1, P.now rel hf o⟩
  · rename_i ns hd
    obtain ⟨v, e1, o⟩ := rel.cell i _ hd
    exact ⟨v, e1, P.now rel hf o⟩
  · exact hf.elim
def wc (d : D) : Env → Wp D := fun _ => wret d
theorem ex_c {v : V} {d : D} (h : PE X e (tC v)) (r : ∀ F, IsD F v d) : EX X S W e (wc d) := ⟨_, h, fun H0 δ σ F H b R Q rel hf P => P.now rel hf (r F)⟩
theorem ex_int {i : Int} {j : Nat} : EX X S W (.Constant (.int i) j pos) (wc (.int i)) := ex_c pe_int fun _ => .int i
theorem ex_bl {i : Bool} {j : Nat} : EX X S W (.Constant (.bool i) j pos) (wc (.bool i)) := ex_c pe_bl fun _ => .bl i
theorem ex_non {j : Nat} : EX X S W (.Constant .none j pos) (wc .none) := ex_c pe_non fun _ => .non
theorem ex_str {x : Str} {j : Nat} : EX X S W (.Constant (.str x) j pos) (wc (.str x)) := ex_c pe_str fun _ => .str x
/-- a constant of the module -/
theorem ex_gi {x : Str} {i : Int} {t : Tok} (hm : X.mg x = some (.int i t)) (hg : Gl X x) (hd : (x == ("__debug__" : Str)) = false := by decide) : EX X S W (.Name x pos) (wc (.int i)) := ex_c (pe_glob (v := .int i) hg hm ⟨t, rfl⟩ hd) fun _ => .int i

/-! ### operators by values -/
abbrev TV (S : Sg) (F H : Hp) (v : V) (d : D) : Prop := OkT S H F H v d
theorem TV.lst {F H : Hp} {v : V} {ds : List D} (h : TV S F H v (.list ds)) (x : Ex F H) : ∃ a vs, v = .ref a ∧ H a = some (.lst vs) ∧ IsDs F vs ds := by
  rcases h with h | ⟨a, vs, es, rfl, e, q, r, _⟩
  · cases h with
    | lst h1 h2 => exact ⟨_, _, rfl, x _ _ h1, h2⟩
  · cases e; exact ⟨a, vs, rfl, q, r⟩
theorem TV.tup {F H : Hp} {v : V} {ds : List D} (h : TV S F H v (.tuple ds)) : ∃ a vs, v = .ref a ∧ F a = some (.tup vs) ∧ IsDs F vs ds := by
  rcases h with h | ⟨a, vs, es, rfl, e, q, r, _⟩
  · cases h with
    | tup h1 h2 => exact ⟨_, _, rfl, h1, h2⟩
  · cases e
theorem TV.int {F H : Hp} {v : V} {i : Int} (h : TV S F H v (.int i)) : v = .int i := by
  rcases h with h | ⟨a, vs, es, rfl, e, q, r, _⟩
  · cases h; rfl
  · cases e
theorem TV.bool {F H : Hp} {v : V} {i : Bool} (h : TV S F H v (.bool i)) : v = .bl i := by
  rcases h with h | ⟨a, vs, es, rfl, e, q, r, _⟩
  · cases h; rfl
  · cases e
theorem TV.str {F H : Hp} {v : V} {i : Str} (h : TV S F H v (.str i)) : v = .str i := by
  rcases h with h | ⟨a, vs, es, rfl, e, q, r, _⟩
  · cases h; rfl
  · cases e
theorem TV.non {F H : Hp} {v : V} (h : TV S F H v .none) : v = .non := by
  rcases h with h | ⟨a, vs, es, rfl, e, q, r, _⟩
  · cases h; rfl
  · cases e
theorem TV.dp {K : PySem.W.Frag} {F H : Hp} {v : V} {d : D} (h : TV S F H v d) (x : Ex F H) : Dp K H v d := by
  rcases h with h | ⟨a, vs, es, rfl, rfl, q, r, _⟩
  · exact isd_dp x _ _ h
  · exact .lst (SqL.of q) (isds_dp x _ _ r)
/-- an operation on two values -/
def R2G (S : Sg) (W : WX) (Ok : Hp → Hp → Hp → V → D → Prop) (r : R2) (g : D → D → Wp D) : Prop :=
  ∀ (H0 : Ent) (δ : Env) (σ : Sl) (F H : Hp) (b : Nat) (R : Except Er D → Nat → Prop) (Q : VK) (v u : V) (x y : D), Rel S H0 δ σ F H b → TV S F H v x → TV S F H u y → g x y b R → Post S W Ok H0 δ σ F H R Q → r v u H Q
def wb2 (g : D → D → Wp D) (fa fb : Env → Wp D) : Env → Wp D := fun δ => wbind (fa δ) fun x => wbind (fb δ) fun y => g x y
theorem dg_b2 {r : R2} {g : D → D → Wp D} {ta tb : TE} {fa fb : Env → Wp D} (hr : R2G S W OkV r g) (ha : DG S W (OkT S) ta fa) (hb : DG S W (OkT S) tb fb) : DG S W OkV (tOp r ta tb) (wb2 g fa fb) := by
  refine dg_seq (t2 := fun x σ H Q => tb σ H fun y H2 => r x y H2 Q) (f2 := fun x δ => wbind (fb δ) fun y => g x y) ha back_V fun H0 δ σ Hp0 F H b R Q v x rel o hf P => ?_
  refine hb H0 δ σ F H b _ _ rel hf ⟨fun y b' r' u F' H' q e g' o' => ?_, fun e b' r' F' H' q x' g' => P.er e b' r' F' H' q x' g'⟩
  exact hr H0 δ σ F' H' b' R Q v u x y q (fwd_T Hp0 F H F' H' v x e g'.fr o) o' r' (P.at_ back_V q e g')
theorem ex_op {op : Operator} {r : R2} {g : D → D → Wp D} {fa fb : Env → Wp D} (ho : OpR X (binaryOp op) r) (hr : R2G S W OkV r g) (ha : ET X S W a fa) (hb : ET X S W b fb) : EX X S W (.BinOp a op b pos) (wb2 g fa fb) := by
  obtain ⟨ta, p1, q1⟩ := ha
  obtain ⟨tb, p2, q2⟩ := hb
  exact ⟨_, pe_op ho p1 p2, dg_b2 hr q1 q2⟩
theorem ex_cmp {op : CmpOp} {r : R2} {g : D → D → Wp D} {fa fb : Env → Wp D} (ho : OpR X (compareOp op) r) (hr : R2G S W OkV r g) (hm : behindInMarks op b = false) (ha : ET X S W a fa) (hb : ET X S W b fb) : EX X S W (.Compare a [op] [b] pos) (wb2 g fa fb) := by
  obtain ⟨ta, p1, q1⟩ := ha
  obtain ⟨tb, p2, q2⟩ := hb
  exact ⟨_, pe_cmpR ho p1 p2 hm, dg_b2 hr q1 q2⟩
/-- a value that is a bool, as a test -/
def wtest (f : Env → Wp D) : Env → Wp Bool := fun δ => wbind (f δ) fun d b R => match d with
  | .bool k => R (.ok k) b
  | _ => False
theorem dg_test {t : TE} {f : Env → Wp D} (h : DG S W OkV t f) : DG S W OkB (tTest t) (wtest f) := by
  intro H0 δ σ F H b R Q rel hf P
  refine h H0 δ σ F H b _ _ rel hf ⟨fun x b' r y F' H' q e g o => ?_, P.er⟩
  cases x with
  | bool k =>
    cases o
    exact ⟨k, rfl, P.ok k b' r k F' H' q e g rfl⟩
  | _ => exact r.elim
theorem bx_cmp {op : CmpOp} {r : R2} {g : D → D → Wp D} {fa fb : Env → Wp D} (ho : OpR X (compareOp op) r) (hr : R2G S W OkV r g) (hm : behindInMarks op b = false) (ha : ET X S W a fa) (hb : ET X S W b fb) : BX X S W (.Compare a [op] [b] pos) (wtest (wb2 g fa fb)) := by
  obtain ⟨ta, p1, q1⟩ := ha
  obtain ⟨tb, p2, q2⟩ := hb
  exact ⟨_, pt_cmpR ho p1 p2 hm, dg_test (dg_b2 hr q1 q2)⟩

/-! ints -/
def wI2 (C : Int → Int → Prop) (g : Int → Int → Int) : D → D → Wp D := fun x y b R => match x, y with
  | .int i, .int j => C i j ∧ R (.ok (.int (g i j))) b
  | _, _ => False
theorem r2g_I {C : Int → Int → Prop} {g : Int → Int → Int} : R2G S W OkV (rI C fun i j => .int (g i j)) (wI2 C g) := by
  intro H0 δ σ F H b R Q v u x y rel hx hy hf P
  cases x with
  | int i =>
    cases y with
    | int j =>
      obtain ⟨hc, hf⟩ := hf
      exact ⟨i, j, hx.int, hy.int, hc, P.now rel hf (.int _)⟩
    | _ => exact hf.elim
  | _ => exact hf.elim
theorem r2g_I0 {g : Int → Int → Int} : R2G S W OkV (rI0 fun i j => .int (g i j)) (wI2 (fun _ _ => True) g) := by
  intro H0 δ σ F H b R Q v u x y rel hx hy hf P
  cases x with
  | int i =>
    cases y with
    | int j => exact ⟨i, j, hx.int, hy.int, P.now rel hf.2 (.int _)⟩
    | _ => exact hf.elim
  | _ => exact hf.elim
/-- comparisons of ints -/
def wIB (g : Int → Int → Bool) : D → D → Wp D := fun x y b R => match x, y with
  | .int i, .int j => R (.ok (.bool (g i j))) b
  | _, _ => False
theorem r2g_IB {g : Int → Int → Bool} : R2G S W OkV (rI0 fun i j => .bl (g i j)) (wIB g) := by
  intro H0 δ σ F H b R Q v u x y rel hx hy hf P
  cases x with
  | int i =>
    cases y with
    | int j => exact ⟨i, j, hx.int, hy.int, P.now rel hf (.bl _)⟩
    | _ => exact hf.elim
  | _ => exact hf.elim
abbrev CTrue : Int → Int → Prop := fun _ _ => True
abbrev wSub := wI2 CTrue (· - ·)
abbrev wMul := wI2 CMulX (· * ·)
abbrev wDiv := wI2 CDivW (· / ·)
abbrev wMod := wI2 (fun _ j => 0 < j) (· % ·)
abbrev wPow := wI2 CPow fun i j => i ^ j.toNat
abbrev wShl := wI2 CShl fun i j => i * 2 ^ j.toNat
abbrev wShr := wI2 (fun _ j => 0 ≤ j) fun i j => i / 2 ^ j.toNat
abbrev wAnd := wI2 CTrue Builtin.bitAnd
abbrev wOr := wI2 CTrue Builtin.bitOr
abbrev wXor := wI2 CTrue Builtin.bitXor
abbrev wLt := wIB fun i j => decide (i < j)
abbrev wLe := wIB fun i j => decide (i ≤ j)
abbrev wGt := wIB fun i j => decide (j < i)
abbrev wGe := wIB fun i j => decide (j ≤ i)
section
variable {fa fb : Env → Wp D} (ha : ET X S W a fa) (hb : ET X S W b fb)
include ha hb
theorem ex_sub : EX X S W (.BinOp a .Sub b pos) (wb2 wSub fa fb) := ex_op op_sub r2g_I0 ha hb
theorem ex_mul : EX X S W (.BinOp a .Mult b pos) (wb2 wMul fa fb) := ex_op op_mulX r2g_I ha hb
theorem ex_div : EX X S W (.BinOp a .FloorDiv b pos) (wb2 wDiv fa fb) := ex_op op_fdivW r2g_I ha hb
theorem ex_mod : EX X S W (.BinOp a .Mod b pos) (wb2 wMod fa fb) := ex_op op_mod r2g_I ha hb
theorem ex_pow : EX X S W (.BinOp a .Pow b pos) (wb2 wPow fa fb) := ex_op op_pow r2g_I ha hb
theorem ex_shl : EX X S W (.BinOp a .LShift b pos) (wb2 wShl fa fb) := ex_op op_shlW r2g_I ha hb
theorem ex_shr : EX X S W (.BinOp a .RShift b pos) (wb2 wShr fa fb) := ex_op op_shr r2g_I ha hb
theorem ex_and : EX X S W (.BinOp a .BitAnd b pos) (wb2 wAnd fa fb) := ex_op op_and r2g_I0 ha hb
theorem ex_or : EX X S W (.BinOp a .BitOr b pos) (wb2 wOr fa fb) := ex_op op_or r2g_I0 ha hb
theorem ex_xor : EX X S W (.BinOp a .BitXor b pos) (wb2 wXor fa fb) := ex_op op_xor r2g_I0 ha hb
theorem ex_lt : EX X S W (.Compare a [.Lt] [b] pos) (wb2 wLt fa fb) := ex_cmp op_lt r2g_IB (nomark _) ha hb
theorem ex_le : EX X S W (.Compare a [.LtE] [b] pos) (wb2 wLe fa fb) := ex_cmp op_le r2g_IB (nomark _) ha hb
theorem ex_gt : EX X S W (.Compare a [.Gt] [b] pos) (wb2 wGt fa fb) := ex_cmp op_gt r2g_IB (nomark _) ha hb
theorem ex_ge : EX X S W (.Compare a [.GtE] [b] pos) (wb2 wGe fa fb) := ex_cmp op_ge r2g_IB (nomark _) ha hb
theorem bx_lt : BX X S W (.Compare a [.Lt] [b] pos) (wtest (wb2 wLt fa fb)) := bx_cmp op_lt r2g_IB (nomark _) ha hb
theorem bx_le : BX X S W (.Compare a [.LtE] [b] pos) (wtest (wb2 wLe fa fb)) := bx_cmp op_le r2g_IB (nomark _) ha hb
theorem bx_gt : BX X S W (.Compare a [.Gt] [b] pos) (wtest (wb2 wGt fa fb)) := bx_cmp op_gt r2g_IB (nomark _) ha hb
theorem bx_ge : BX X S W (.Compare a [.GtE] [b] pos) (wtest (wb2 wGe fa fb)) := bx_cmp op_ge r2g_IB (nomark _) ha hb
end
/-! ints, lists, tuples, texts added -/
def wAdd : D → D → Wp D := fun x y b R => match x, y with
  | .int i, .int j => R (.ok (.int (i + j))) b
  | .list xs, .list ys => xs.length + ys.length ≤ sizeLine ∧ R (.ok (.list (xs ++ ys))) b
  | .tuple xs, .tuple ys => xs.length + ys.length ≤ sizeLine ∧ R (.ok (.tuple (xs ++ ys))) b
  | .str i, .str j => i.length + j.length ≤ sizeLine ∧ R (.ok (.str (i ++ j))) b
  | _, _ => False
theorem r2g_add : R2G S W OkV (fun x y H Q => rI0 (fun i j => .int (i + j)) x y H Q ∨ (rCat x y H Q ∨ (rCatA X.K x y H Q ∨ ∃ i j, x = V.str i ∧ y = V.str j ∧ i.length + j.length ≤ sizeLine ∧ Q (.str (i ++ j)) H))) wAdd := by
  intro H0 δ σ F H b R Q v u x y rel hx hy hf P
  cases x with
  | int i =>
    cases y with
    | int j => exact .inl ⟨i, j, hx.int, hy.int, P.now rel hf (.int _)⟩
    | _ => exact hf.elim
  | list ds =>
    cases y with
    | list es =>
      obtain ⟨hz, hf⟩ := hf
      obtain ⟨p, vs, rfl, h1, r1⟩ := hx.lst rel.sub
      obtain ⟨q, us, rfl, h2, r2⟩ := hy.lst rel.sub
      refine .inr (.inl ⟨p, q, vs, us, rfl, rfl, h1, h2, by rw [r1.length, r2.length]; exact hz, fun n hn => ?_⟩)
      have ex : Ex F (upd F n (.lst (vs ++ us))) := Ex.nw (rel.sub.free hn)
      exact P.ok _ _ hf _ _ _ (rel.new hn) ex (Go.new hn) (.lst upd_same ((r1.append r2).mono ex))
    | _ => exact hf.elim
  | tuple ds =>
    cases y with
    | tuple es =>
      obtain ⟨hz, hf⟩ := hf
      obtain ⟨p, vs, rfl, h1, r1⟩ := hx.tup
      obtain ⟨q, us, rfl, h2, r2⟩ := hy.tup
      refine .inr (.inr (.inl ⟨p, q, vs, us, rfl, rfl, SqT.of (rel.sub _ _ h1), SqT.of (rel.sub _ _ h2), by rw [r1.length, r2.length]; exact hz, fun z => ?_, fun _ z => ?_, fun _ _ n hn => ?_⟩))
      · subst z; cases r1; exact P.now rel hf (.tup h2 r2)
      · subst z; cases r2; rw [List.append_nil] at hf; exact P.now rel hf (.tup h1 r1)
      · have ex : Ex F (upd F n (.tup (vs ++ us))) := Ex.nw (rel.sub.free hn)
        exact P.ok _ _ hf _ _ _ (rel.new hn) ex (Go.new hn) (.tup upd_same ((r1.append r2).mono ex))
    | _ => exact hf.elim
  | str i =>
    cases y with
    | str j => exact .inr (.inr (.inr ⟨i, j, hx.str, hy.str, hf.1, P.now rel hf.2 (.str _)⟩))
    | _ => exact hf.elim
  | _ => exact hf.elim
theorem ex_add {fa fb : Env → Wp D} (ha : ET X S W a fa) (hb : ET X S W b fb) : EX X S W (.BinOp a .Add b pos) (wb2 wAdd fa fb) :=
  ex_op (OpR.or op_add (OpR.or op_cat (OpR.or op_catA op_add_str))) r2g_add ha hb
/-- == and != -/
def okE : D → D → Prop := fun x y => match x, y with
  | .str _, .str _ => True
  | x, y => SeqAt.shaped x = true ∧ SeqAt.shaped y = true
def wEq : D → D → Wp D := fun x y b R => okE x y ∧ R (.ok (.bool (PyData.eqv x y))) b
def wNe : D → D → Wp D := fun x y b R => okE x y ∧ R (.ok (.bool (!PyData.eqv x y))) b
theorem okE_or (x y : D) (h : okE x y) : (∃ i j, x = .str i ∧ y = .str j) ∨ (SeqAt.shaped x = true ∧ SeqAt.shaped y = true) := by
  unfold okE at h
  split at h
  · exact .inl ⟨_, _, rfl, rfl⟩
  · exact .inr h
theorem r2g_eq {K : PySem.W.Frag} : R2G S W OkV (fun x y H Q => rEq x y H Q ∨ rEqD K x y H Q) wEq := by
  intro H0 δ σ F H b R Q v u x y rel hx hy hf P
  rcases okE_or x y hf.1 with ⟨i, j, rfl, rfl⟩ | ⟨h1, h2⟩
  · rw [hx.str, hy.str]
    have e : PyData.eqv (.str i) (.str j) = (i == j) := by simp [PyData.eqv]
    exact .inl ⟨rfl, by rw [dec_str, ← e]; exact P.now rel hf.2 (.bl _)⟩
  · exact .inr ⟨x, y, hx.dp rel.sub, hy.dp rel.sub, h1, h2, P.now rel hf.2 (.bl _)⟩
theorem r2g_ne {K : PySem.W.Frag} : R2G S W OkV (fun x y H Q => rNe x y H Q ∨ rNeD K x y H Q) wNe := by
  intro H0 δ σ F H b R Q v u x y rel hx hy hf P
  rcases okE_or x y hf.1 with ⟨i, j, rfl, rfl⟩ | ⟨h1, h2⟩
  · rw [hx.str, hy.str]
    have e : PyData.eqv (.str i) (.str j) = (i == j) := by simp [PyData.eqv]
    exact .inl ⟨rfl, by rw [dec_str, ← e]; exact P.now rel hf.2 (.bl _)⟩
  · exact .inr ⟨x, y, hx.dp rel.sub, hy.dp rel.sub, h1, h2, P.now rel hf.2 (.bl _)⟩
theorem ex_eq {fa fb : Env → Wp D} (G : Cxt X S W k) (ha : ET X S W a fa) (hb : ET X S W b fb) : EX X S W (.Compare a [.Eq] [b] pos) (wb2 wEq fa fb) := ex_cmp (OpR.or op_eq (op_eqD G.hu64)) r2g_eq (nomark _) ha hb
theorem ex_ne {fa fb : Env → Wp D} (G : Cxt X S W k) (ha : ET X S W a fa) (hb : ET X S W b fb) : EX X S W (.Compare a [.NotEq] [b] pos) (wb2 wNe fa fb) := ex_cmp (OpR.or op_ne (op_neD G.hu64)) r2g_ne (nomark _) ha hb
theorem bx_eq {fa fb : Env → Wp D} (G : Cxt X S W k) (ha : ET X S W a fa) (hb : ET X S W b fb) : BX X S W (.Compare a [.Eq] [b] pos) (wtest (wb2 wEq fa fb)) := bx_cmp (OpR.or op_eq (op_eqD G.hu64)) r2g_eq (nomark _) ha hb
theorem bx_ne {fa fb : Env → Wp D} (G : Cxt X S W k) (ha : ET X S W a fa) (hb : ET X S W b fb) : BX X S W (.Compare a [.NotEq] [b] pos) (wtest (wb2 wNe fa fb)) := bx_cmp (OpR.or op_ne (op_neD G.hu64)) r2g_ne (nomark _) ha hb
/-- is None, is not None -/
def isNonD : D → Bool
  | .none => true
  | _ => false
def wIsN : D → D → Wp D := fun x y b R => match y with
  | .none => R (.ok (.bool (isNonD x))) b
  | _ => False
def wNotN : D → D → Wp D := fun x y b R => match y with
  | .none => R (.ok (.bool (!isNonD x))) b
  | _ => False
theorem tv_non {F H : Hp} {v : V} {d : D} (h : TV S F H v d) : decide (v = V.non) = isNonD d := by
  rcases h with h | ⟨a, vs, es, rfl, rfl, q, r, _⟩
  · cases h <;> rfl
  · rfl
theorem r2g_isN : R2G S W OkV (fun x y H Q => y = V.non ∧ Q (.bl (decide (x = .non))) H) wIsN := by
  intro H0 δ σ F H b R Q v u x y rel hx hy hf P
  cases y with
  | none => exact ⟨hy.non, by rw [tv_non hx]; exact P.now rel hf (.bl _)⟩
  | _ => exact hf.elim
theorem r2g_notN : R2G S W OkV (fun x y H Q => y = V.non ∧ Q (.bl (!decide (x = .non))) H) wNotN := by
  intro H0 δ σ F H b R Q v u x y rel hx hy hf P
  cases y with
  | none =>
    exact ⟨hy.non, by rw [tv_non hx]; exact P.now rel hf (.bl _)⟩
  | _ => exact hf.elim
theorem ex_isN {fa fb : Env → Wp D} (ha : ET X S W a fa) (hb : ET X S W b fb) : EX X S W (.Compare a [.Is] [b] pos) (wb2 wIsN fa fb) := ex_cmp op_isN r2g_isN (nomark _) ha hb
theorem ex_notN {fa fb : Env → Wp D} (ha : ET X S W a fa) (hb : ET X S W b fb) : EX X S W (.Compare a [.IsNot] [b] pos) (wb2 wNotN fa fb) := ex_cmp op_notN r2g_notN (nomark _) ha hb
theorem bx_isN {fa fb : Env → Wp D} (ha : ET X S W a fa) (hb : ET X S W b fb) : BX X S W (.Compare a [.Is] [b] pos) (wtest (wb2 wIsN fa fb)) := bx_cmp op_isN r2g_isN (nomark _) ha hb
theorem bx_notN {fa fb : Env → Wp D} (ha : ET X S W a fa) (hb : ET X S W b fb) : BX X S W (.Compare a [.IsNot] [b] pos) (wtest (wb2 wNotN fa fb)) := bx_cmp op_notN r2g_notN (nomark _) ha hb

/-! ### one-place operators -/
def wI1 (g : Int → Int) : D → Wp D := fun x b R => match x with
  | .int i => R (.ok (.int (g i))) b
  | _ => False
def wb1 (g : D → Wp D) (fa : Env → Wp D) : Env → Wp D := fun δ => wbind (fa δ) g
theorem dg_b1 {α β : Type} {Ok : Hp → Hp → Hp → β → α → Prop} {r : V → Hp → (β → Hp → Prop) → Prop} {g : D → Wp α} {ta : TE} {fa : Env → Wp D} (bk : Back Ok)
    (hr : ∀ (H0 : Ent) (δ : Env) (σ : Sl) (F H : Hp) (b : Nat) (R : Except Er α → Nat → Prop) (Q : β → Hp → Prop) (v : V) (x : D), Rel S H0 δ σ F H b → TV S F H v x → g x b R → Post S W Ok H0 δ σ F H R Q → r v H Q)
    (ha : DG S W (OkT S) ta fa) : DG S W Ok (fun σ H Q => ta σ H fun x H1 => r x H1 Q) (fun δ => wbind (fa δ) g) :=
  dg_seq (t2 := fun x _ H Q => r x H Q) (f2 := fun x _ => g x) ha bk fun H0 δ σ Hp0 F H b R Q v x rel o hf P => hr H0 δ σ F H b R Q v x rel o hf P
theorem ex_un {op : UnaryOp} {g : Int → Int} {fa : Env → Wp D} (ho : UnR X (unaryOp op) (rU fun i => .int (g i))) (ha : ET X S W a fa) : EX X S W (.UnaryOp op a pos) (wb1 (wI1 g) fa) := by
  obtain ⟨ta, p1, q1⟩ := ha
  refine ⟨_, pe_un ho p1, dg_b1 (r := rU fun i => .int (g i)) back_V (fun H0 δ σ F H b R Q v x rel hx hf P => ?_) q1⟩
  cases x with
  | int i => exact ⟨i, hx.int, P.now rel hf (.int _)⟩
  | _ => exact hf.elim
theorem ex_neg {fa : Env → Wp D} (ha : ET X S W a fa) : EX X S W (.UnaryOp .USub a pos) (wb1 (wI1 fun i => -i) fa) := ex_un un_neg ha
theorem ex_inv {fa : Env → Wp D} (ha : ET X S W a fa) : EX X S W (.UnaryOp .Invert a pos) (wb1 (wI1 Builtin.bitNot) fa) := ex_un un_inv ha

/-! ### tests -/
/-- a value's truth -/
def wtru : D → Wp Bool := fun x b R => match x with
  | .none => R (.ok false) b
  | .bool k => R (.ok k) b
  | .int i => R (.ok (i != 0)) b
  | .str y => y.length ≤ sizeLine ∧ R (.ok ((y.length : Int) != 0)) b
  | .list xs => R (.ok (!xs.isEmpty)) b
  | .tuple xs => R (.ok (!xs.isEmpty)) b
  | .dict _ => False
theorem isds_empty {F : Hp} {vs : List V} {ds : List D} (h : IsDs F vs ds) : vs.isEmpty = ds.isEmpty := by
  cases h <;> rfl
theorem bx_tru {fa : Env → Wp D} (ha : ET X S W a fa) (he : ∀ whole, isTrue a X.env whole = (do let v ← whole; standAt a.pos; holding [v] (truthy v)) := by intro _; rfl) : BX X S W a (fun δ => wbind (fa δ) wtru) := by
  obtain ⟨ta, p1, q1⟩ := ha
  refine ⟨_, pt_truth p1 he, dg_b1 (r := fun x H' Q => ∃ k, TruV X.K x H' k ∧ Q k H') back_B (fun H0 δ σ F H b R Q v x rel hx hf P => ?_) q1⟩
  cases x with
  | none => exact ⟨false, by rw [hx.non]; rfl, P.now rel hf rfl⟩
  | bool i => exact ⟨i, by rw [hx.bool]; rfl, P.now rel hf rfl⟩
  | int i => exact ⟨i != 0, by rw [hx.int]; rfl, P.now rel hf rfl⟩
  | str i => exact ⟨(i.length : Int) != 0, by rw [hx.str]; exact ⟨hf.1, rfl⟩, P.now rel hf.2 rfl⟩
  | list ds =>
    obtain ⟨p, vs, rfl, h1, r1⟩ := hx.lst rel.sub
    exact ⟨!ds.isEmpty, .inl ⟨vs, SqL.of h1, by rw [isds_empty r1]⟩, P.now rel hf rfl⟩
  | tuple ds =>
    obtain ⟨p, vs, rfl, h1, r1⟩ := hx.tup
    exact ⟨!ds.isEmpty, .inr (.inl ⟨vs, SqT.of (rel.sub _ _ h1), by rw [isds_empty r1]⟩), P.now rel hf rfl⟩
  | dict _ => exact hf.elim
theorem BW.x {f : Env → Wp Bool} (h : BW X S W e f) : BX X S W e f := let ⟨t, p, q⟩ := h; ⟨t, p.pt, q⟩
def wand (f g : Env → Wp Bool) : Env → Wp Bool := fun δ => wbind (f δ) fun x => match x with
  | true => g δ
  | false => wret false
def wor (f g : Env → Wp Bool) : Env → Wp Bool := fun δ => wbind (f δ) fun x => match x with
  | true => wret true
  | false => g δ
def wnot (f : Env → Wp Bool) : Env → Wp Bool := fun δ => wbind (f δ) fun x => wret (!x)
theorem dg_and {t u : TT} {f g : Env → Wp Bool} (h1 : DG S W OkB t f) (h2 : DG S W OkB u g) : DG S W OkB (tAnd t u) (wand f g) := by
  refine dg_seq (t2 := fun c σ H Q => if c = true then u σ H Q else Q false H) h1 back_B fun H0 δ σ Hp0 F H b R Q y x rel o hf P => ?_
  cases o
  cases y with
  | true => show u σ H Q; exact h2 H0 δ σ F H b R Q rel hf P
  | false => show Q false H; exact P.now rel hf rfl
theorem dg_or {t u : TT} {f g : Env → Wp Bool} (h1 : DG S W OkB t f) (h2 : DG S W OkB u g) : DG S W OkB (tOr t u) (wor f g) := by
  refine dg_seq (t2 := fun c σ H Q => if c = true then Q true H else u σ H Q) h1 back_B fun H0 δ σ Hp0 F H b R Q y x rel o hf P => ?_
  cases o
  cases y with
  | true => show Q true H; exact P.now rel hf rfl
  | false => show u σ H Q; exact h2 H0 δ σ F H b R Q rel hf P
theorem bw_and1 {f : Env → Wp Bool} (ha : BX X S W a f) : BW X S W (.BoolOp .And [a] pos) f := let ⟨t, p, q⟩ := ha; ⟨t, pw_and1 p, q⟩
theorem bw_or1 {f : Env → Wp Bool} (ha : BX X S W a f) : BW X S W (.BoolOp .Or [a] pos) f := let ⟨t, p, q⟩ := ha; ⟨t, pw_or1 p, q⟩
theorem bw_and {es : List Expr} {f g : Env → Wp Bool} (ha : BX X S W a f) (hb : BW X S W (.BoolOp .And (b :: es) pos) g) : BW X S W (.BoolOp .And (a :: b :: es) pos) (wand f g) := by
  obtain ⟨t, p, q⟩ := ha
  obtain ⟨u, p', q'⟩ := hb
  exact ⟨_, pw_and p p', dg_and q q'⟩
theorem bw_or {es : List Expr} {f g : Env → Wp Bool} (ha : BX X S W a f) (hb : BW X S W (.BoolOp .Or (b :: es) pos) g) : BW X S W (.BoolOp .Or (a :: b :: es) pos) (wor f g) := by
  obtain ⟨t, p, q⟩ := ha
  obtain ⟨u, p', q'⟩ := hb
  exact ⟨_, pw_or p p', dg_or q q'⟩
theorem bx_not {f : Env → Wp Bool} (ha : BX X S W a f) : BX X S W (.UnaryOp .Not a pos) (wnot f) := by
  obtain ⟨t, p, q⟩ := ha
  refine ⟨_, pt_not p, ?_⟩
  exact dg_seq (t2 := fun c _ H Q => Q (!c) H) (f2 := fun x _ => wret (!x)) q back_B fun H0 δ σ Hp0 F H b R Q y x rel o hf P => by cases o; exact P.now rel hf rfl
/-! .. as values -/
def wbl (f : Env → Wp D) : Env → Wp Bool := wtest f
def wval (f : Env → Wp Bool) : Env → Wp D := fun δ => wbind (f δ) fun x => wret (.bool x)
def wandV (f g : Env → Wp D) : Env → Wp D := fun δ => wbind (f δ) fun x b R => match x with
  | .bool true => g δ b R
  | .bool false => R (.ok (.bool false)) b
  | _ => False
def worV (f g : Env → Wp D) : Env → Wp D := fun δ => wbind (f δ) fun x b R => match x with
  | .bool true => R (.ok (.bool true)) b
  | .bool false => g δ b R
  | _ => False
theorem ex_one {op : BoolOp} {f : Env → Wp D} (ha : EX X S W a f) : EX X S W (.BoolOp op [a] pos) f := let ⟨t, p, q⟩ := ha; ⟨t, pe_one p, q⟩
theorem ex_andV {es : List Expr} {f g : Env → Wp D} (ha : EX X S W a f) (hb : EX X S W (.BoolOp .And (b :: es) pos) g) : EX X S W (.BoolOp .And (a :: b :: es) pos) (wandV f g) := by
  obtain ⟨t, p, q⟩ := ha
  obtain ⟨u, p', q'⟩ := hb
  refine ⟨_, pe_and p p', ?_⟩
  refine dg_seq (t2 := fun x σ H Q => ∃ c, x = .bl c ∧ if c = true then u σ H Q else Q (.bl false) H) q back_V fun H0 δ σ Hp0 F H b R Q y x rel o hf P => ?_
  cases x with
  | bool c =>
    cases o
    refine ⟨c, rfl, ?_⟩
    cases c with
    | true => show u σ H Q; exact q' H0 δ σ F H b R Q rel hf P
    | false => show Q (.bl false) H; exact P.now rel hf (.bl _)
  | _ => exact hf.elim
theorem ex_orV {es : List Expr} {f g : Env → Wp D} (ha : EX X S W a f) (hb : EX X S W (.BoolOp .Or (b :: es) pos) g) : EX X S W (.BoolOp .Or (a :: b :: es) pos) (worV f g) := by
  obtain ⟨t, p, q⟩ := ha
  obtain ⟨u, p', q'⟩ := hb
  refine ⟨_, pe_or p p', ?_⟩
  refine dg_seq (t2 := fun x σ H Q => ∃ c, x = .bl c ∧ if c = true then Q (.bl true) H else u σ H Q) q back_V fun H0 δ σ Hp0 F H b R Q y x rel o hf P => ?_
  cases x with
  | bool c =>
    cases o
    refine ⟨c, rfl, ?_⟩
    cases c with
    | false => show u σ H Q; exact q' H0 δ σ F H b R Q rel hf P
    | true => show Q (.bl true) H; exact P.now rel hf (.bl _)
  | _ => exact hf.elim
def wnotV (f : Env → Wp D) : Env → Wp D := fun δ => wbind (f δ) fun x b R => match x with
  | .bool k => R (.ok (.bool (!k))) b
  | _ => False
theorem ex_notV {f : Env → Wp D} (ha : EX X S W a f) : EX X S W (.UnaryOp .Not a pos) (wnotV f) := by
  obtain ⟨t, p, q⟩ := ha
  refine ⟨_, pe_not p, ?_⟩
  refine dg_seq (t2 := fun x _ H Q => ∃ c, x = .bl c ∧ Q (.bl (!c)) H) q back_V fun H0 δ σ Hp0 F H b R Q y x rel o hf P => ?_
  cases x with
  | bool c =>
    cases o
    exact ⟨c, rfl, P.now rel hf (.bl _)⟩
  | _ => exact hf.elim
def wif (c : Env → Wp Bool) (f g : Env → Wp D) : Env → Wp D := fun δ => wbind (c δ) fun x => match x with
  | true => f δ
  | false => g δ
theorem ex_if {fc : Env → Wp Bool} {f g : Env → Wp D} (hc : BX X S W c fc) (ha : EX X S W a f) (hb : EX X S W b g) : EX X S W (.IfExp c a b pos) (wif fc f g) := by
  obtain ⟨tc, p, q⟩ := hc
  obtain ⟨t, p1, q1⟩ := ha
  obtain ⟨u, p2, q2⟩ := hb
  refine ⟨_, pe_ifExp p p1 p2, ?_⟩
  refine dg_seq (t2 := fun c σ H Q => if c = true then t σ H Q else u σ H Q) q back_V fun H0 δ σ Hp0 F H b R Q y x rel o hf P => ?_
  cases o
  cases y with
  | true => show t σ H Q; exact q1 H0 δ σ F H b R Q rel hf P
  | false => show u σ H Q; exact q2 H0 δ σ F H b R Q rel hf P

/-! ### argument lists, displays -/
def wnil : Env → Wp (List D) := fun _ => wret []
def wcons (f : Env → Wp D) (g : Env → Wp (List D)) : Env → Wp (List D) := fun δ => wbind (f δ) fun x => wbind (g δ) fun xs => wret (x :: xs)
theorem lx_nil : LX X S W [] wnil := ⟨_, pa_nil, fun H0 δ σ F H b R Q rel hf P => P.now rel hf .nil⟩
theorem lx_cons {es : List Expr} {f : Env → Wp D} {g : Env → Wp (List D)} (ha : EX X S W a f) (hr : LX X S W es g) (hs : starEach (a :: es) X.env = (false, eval a X.env) :: starEach es X.env := by rfl) : LX X S W (a :: es) (wcons f g) := by
  obtain ⟨t, p, q⟩ := ha
  obtain ⟨u, p', q'⟩ := hr
  refine ⟨_, pa_cons p p' hs, ?_⟩
  refine dg_seq (t2 := fun x σ H Q => u σ H fun xs H2 => Q (x :: xs) H2) (f2 := fun x δ => wbind (g δ) fun xs => wret (x :: xs)) q back_L fun H0 δ σ Hp0 F H b R Q y x rel o hf P => ?_
  refine q' H0 δ σ F H b _ _ rel hf ⟨fun xs b' r ys F' H' q2 e g' o' => ?_, fun e b' r F' H' q2 x' g' => P.er e b' r F' H' q2 x' g'⟩
  exact P.ok _ b' r _ F' H' q2 e g' (.cons (fwd_V Hp0 F H F' H' y x e g'.fr o) o')
def wnilC : Env → Wp (List Cell) := fun _ => wret []
def wconsC (f : Env → Wp Cell) (g : Env → Wp (List Cell)) : Env → Wp (List Cell) := fun δ => wbind (f δ) fun x => wbind (g δ) fun xs => wret (x :: xs)
theorem ax_nil : AX X S W [] wnilC := ⟨_, pa_nil, fun H0 δ σ F H b R Q rel hf P => P.now rel hf .nil⟩
theorem ax_cons {es : List Expr} {f : Env → Wp Cell} {g : Env → Wp (List Cell)} (ha : EC X S W a f) (hr : AX X S W es g) (hs : starEach (a :: es) X.env = (false, eval a X.env) :: starEach es X.env := by rfl) : AX X S W (a :: es) (wconsC f g) := by
  obtain ⟨t, p, q⟩ := ha
  obtain ⟨u, p', q'⟩ := hr
  refine ⟨_, pa_cons p p' hs, ?_⟩
  refine dg_seq (t2 := fun x σ H Q => u σ H fun xs H2 => Q (x :: xs) H2) (f2 := fun x δ => wbind (g δ) fun xs => wret (x :: xs)) q back_A fun H0 δ σ Hp0 F H b R Q y x rel o hf P => ?_
  refine q' H0 δ σ F H b _ _ rel hf ⟨fun xs b' r ys F' H' q2 e g' o' => ?_, fun e b' r F' H' q2 x' g' => P.er e b' r F' H' q2 x' g'⟩
  exact P.ok _ b' r _ F' H' q2 e g' (.cons (fwd_C Hp0 F H F' H' y x e g'.fr o) o')
/-- (a, b, ..) -/
def wtup (f : Env → Wp (List D)) : Env → Wp D := fun δ => wbind (f δ) fun xs b R => xs.length ≤ sizeLine ∧ R (.ok (.tuple xs)) b
theorem ex_tup {es : List Expr} {x1 : Nat} {f : Env → Wp (List D)} (h : LX X S W es f) : EX X S W (.Tuple es x1 pos) (wtup f) := by
  obtain ⟨t, p, q⟩ := h
  refine ⟨_, pe_tup p, ?_⟩
  refine dg_seq (t2 := fun xs _ H Q => xs.length ≤ sizeLine ∧ ∀ p, H p = none → Q (.ref p) (upd H p (.tup xs))) (f2 := fun xs _ b R => xs.length ≤ sizeLine ∧ R (.ok (.tuple xs)) b) q back_V fun H0 δ σ Hp0 F H b R Q y x rel o hf P => ?_
  obtain ⟨hz, hf⟩ := hf
  refine ⟨by rw [IsDs.length o]; exact hz, fun n hn => ?_⟩
  have ex : Ex F (upd F n (.tup y)) := Ex.nw (rel.sub.free hn)
  exact P.ok _ _ hf _ _ _ (rel.new hn) ex (Go.new hn) (.tup upd_same (IsDs.mono o ex))
/-- [a, b, ..] -/
def wlis (f : Env → Wp (List D)) : Env → Wp (List D) := fun δ => wbind (f δ) fun xs b R => xs.length ≤ sizeLine ∧ R (.ok xs) b
theorem ef_lst {es : List Expr} {f : Env → Wp (List D)} (h : LX X S W es f) : EF X S W (.List es pos) (wlis f) := by
  obtain ⟨t, p, q⟩ := h
  refine ⟨_, pe_lst p, ?_⟩
  refine dg_seq (t2 := fun xs _ H Q => xs.length ≤ sizeLine ∧ ∀ p, H p = none → Q (.ref p) (upd H p (.lst xs))) (f2 := fun xs _ b R => xs.length ≤ sizeLine ∧ R (.ok xs) b) q back_F fun H0 δ σ Hp0 F H b R Q y x rel o hf P => ?_
  obtain ⟨hz, hf⟩ := hf
  refine ⟨by rw [IsDs.length o]; exact hz, fun n hn => ?_⟩
  exact P.ok _ _ hf _ _ _ (rel.tmp hn) Ex.rfl' (Go.tmp hn) ⟨n, y, rfl, hn, upd_same, rel.sub.free hn, o⟩

/-! ### subscripts -/
def wIx : D → D → Wp D := fun x y b R => match x, y with
  | .list xs, .int i => ∃ d, atI xs i = some d ∧ R (.ok d) b
  | .tuple xs, .int i => ∃ d, atI xs i = some d ∧ R (.ok d) b
  | _, _ => False
theorem IsDs.atI {F : Hp} {vs : List V} {ds : List D} {i : Int} {d : D} (h : IsDs F vs ds) (e : atI ds i = some d) : ∃ v, L2.atI vs i = some v ∧ IsD F v d := by
  unfold L2.atI at e ⊢
  rw [h.length]
  cases q : ixN ds.length i with
  | none => rw [q] at e; cases e
  | some j =>
    rw [q] at e
    exact h.get e
theorem r2g_ix {K : PySem.W.Frag} : R2G S W OkV (fun x y H Q => rIxL K x y H Q ∨ rIxT K x y H Q) wIx := by
  intro H0 δ σ F H b R Q v u x y rel hx hy hf P
  cases x with
  | list ds =>
    cases y with
    | int i =>
      obtain ⟨d, hd, hf⟩ := hf
      obtain ⟨p, vs, rfl, h1, r1⟩ := hx.lst rel.sub
      obtain ⟨z, hz, rz⟩ := r1.atI hd
      exact .inl ⟨p, vs, i, z, rfl, hy.int, SqL.of h1, hz, P.now rel hf rz⟩
    | _ => exact hf.elim
  | tuple ds =>
    cases y with
    | int i =>
      obtain ⟨d, hd, hf⟩ := hf
      obtain ⟨p, vs, rfl, h1, r1⟩ := hx.tup
      obtain ⟨z, hz, rz⟩ := r1.atI hd
      exact .inr ⟨p, vs, i, z, rfl, hy.int, SqT.of (rel.sub _ _ h1), hz, P.now rel hf rz⟩
    | _ => exact hf.elim
  | _ => exact hf.elim
theorem ex_ix {fa fb : Env → Wp D} (ha : ET X S W a fa) (hb : ET X S W b fb) (hs : PlainIx b := by exact fun _ _ => rfl) : EX X S W (.Subscript a b pos) (wb2 wIx fa fb) := by
  obtain ⟨ta, p1, q1⟩ := ha
  obtain ⟨tb, p2, q2⟩ := hb
  exact ⟨_, pe_ix (IxR.or ix_list ix_tup) p1 p2 hs, dg_b2 r2g_ix q1 q2⟩
end
end BB
set_option Elab.async false
set_option linter.all false
set_option maxRecDepth 100000
set_option autoImplicit false
set_option maxHeartbeats 2000000
/-! Bb3: statements, loops, calls of defs, a def's promise by its body. -/
namespace BB
open PySem PySem.Spec PyProof.Rows L2

/-! ### defs, called where no representation is being made -/
structure FnG (P : Program) (w : World) (K : PySem.W.Frag) (mg : Str → Option Value) (base : Heap) (k : Nat) (f : Addr) (fd : FuncData) (ps : List Str) (sp : Sp) : Prop where
  len : ∀ vs H Q E, sp vs H Q E → vs.length = ps.length
  run : ∀ (A : Around) (outer : List PySem.Env) (s : Shared) (H : Hp) (args : Args) (us : List Value) (vs : List V) (Q : VK) (E : XK), Room k A → A.guards = some [] →
    Env0 P w K mg base A outer s H → BindsTo s fd args (ps.zip us) → Vals vs us → sp vs H Q E → codeAny (model P w) A (.call (.ref f) args) (CR (L2N.CX P w) outer P w H s Q E) s
theorem FnG.mono {P : Program} {w : World} {K : PySem.W.Frag} {mg : Str → Option Value} {base : Heap} {j k : Nat} {f : Addr} {fd : FuncData} {ps : List Str} {sp : Sp} (F : FnG P w K mg base j f fd ps sp) (h : j ≤ k) : FnG P w K mg base k f fd ps sp :=
  ⟨F.len, fun A outer s H args us vs Q E r g => F.run A outer s H args us vs Q E (r.mono h) g⟩
theorem FnG.imp {P : Program} {w : World} {K : PySem.W.Frag} {mg : Str → Option Value} {base : Heap} {k : Nat} {f : Addr} {fd : FuncData} {ps : List Str} {sp sp' : Sp} (F : FnG P w K mg base k f fd ps sp) (h : ∀ vs H Q E, sp' vs H Q E → sp vs H Q E) : FnG P w K mg base k f fd ps sp' :=
  ⟨fun vs H Q E x => F.len vs H Q E (h vs H Q E x), fun A outer s H args us vs Q E r g e b v x => F.run A outer s H args us vs Q E r g e b v (h vs H Q E x)⟩
section
variable {P : Program} {w : World} {K : PySem.W.Frag} {mg : Str → Option Value} {base : Heap}
/-- a def of the text, by its body -/
theorem fng_of {x qual : Str} {st : Stmt} {f : Addr} {fd : FuncData} {N ps : List Str} {k : Nat} {sp : Sp} (F : Fun K x qual st f fd) (Sc : FnScope N ps (defScope st)) (len : ∀ vs H Q E, sp vs H Q E → vs.length = ps.length)
    (bd : ∀ (cdv : Value) (A : Around) (outer : List PySem.Env) (s : Shared) (H : Hp) (vs : List V) (Q : VK) (E : XK), Room k (A.deeper (envOfC qual (defScope st) s.heap.objs.size f cdv)) → A.guards = some [] → sp vs H Q E →
      ∃ t, PSs (cxOf (L2N.CX P w) P w K mg base N qual (defScope st) f cdv A outer s H E) (defBody st) t ∧ t { nx := fun _ H' => Q .non H', rt := Q } (start N vs) H) : FnG P w K mg base (k + 1) f fd ps sp := by
  obtain ⟨oc, od, kV, doc, pm, an, cdv, ct, osl, rfl, lk, hcd⟩ := F.ex
  refine ⟨len, fun A outer s H args us vs Q E room gd en bnd rel want => ?_⟩
  have KX : K.In s.heap := en.mod.kin.keeps fun b o z => (en.bs b o z).1
  have nl : s.heap.NoLimit := en.mod.nolimit.keeps fun b o z => (en.bs b o z).1
  refine codeAny_call_function room.depth (KX _ _ lk) rfl Sc.co Sc.gen rfl (PySem.W.codeRec_of KX hcd) (bnd _ _ _ _ ?_)
  refine wpAny_newFunctionEnv_cells Sc.kind (fun ⟨n, v⟩ hy => (Sc.par n (List.of_mem_zip hy).1).elim .inl fun q => .inr ⟨q, PySem.W.cellsFrom_some _ _ _ (.inl q)⟩) fun env he s1 ic => ?_
  subst he
  refine ⟨nl.keeps ic.toInCall.keep, codeAny_func ?_⟩
  obtain ⟨t, ht, hq⟩ := bd cdv A outer s H vs Q E (room.deeper _) gd want
  refine wpAny_mono (ht.run [] s1 (start N vs) H _ (inv_start Sc room.hd en (len _ _ _ _ want) rel ic) hq) (fun fl s' hs => ?_) fun _ _ z => z
  cases fl with
  | ret u =>
    obtain ⟨v, σ', H', J, rv, q⟩ := hs
    exact ⟨v, H', J.os, J.bare, J.base, J.hok, rv, q⟩
  | next =>
    obtain ⟨σ', H', J, q⟩ := hs
    exact ⟨.non, H', J.os, J.bare, J.base, J.hok, rfl, q⟩
  | brk => exact hs.elim fun _ z => z.elim fun _ z => z.2.elim
  | cont => exact hs.elim fun _ z => z.elim fun _ z => z.2.elim
end
section
variable {X : Cx} {k : Nat} {f : Addr} {fd : FuncData} {ps : List Str} {sp : Sp} {E : Sl → XK} {x : Str} {p pos : Pos} {e : Expr} {es : List Expr} {t : TA}
theorem run_fng {pins : List (Addr × Obj)} {σ : Sl} {H : Hp} {s : Shared} {Q : VK} {us : List Value} {vs : List V} (F : FnG X.prog X.w X.K X.mg X.base k f fd ps sp) (hr : Room k X.A) (gd : X.A.guards = some []) (hb : Binds X.K fd ps [])
    (hx : PassesAt (L2N.CX X.prog X.w) X σ (E σ)) (I : Inv X pins σ H s) (r : Vals vs us) (h : sp vs H Q (E σ)) : wpAny (model X.prog X.w) X.A (call (.ref f) us) (EP X pins σ Q) X.xe s := by
  have bn : BindsTo s fd ⟨us, []⟩ (ps.zip us) := by
    have z := hb s us I.kIn (by rw [List.append_nil, ← r.length]; exact F.len _ _ _ _ h)
    rw [List.append_nil] at z; exact z
  refine wpAny_call (codeAny_mono (F.run X.A X.stack s H ⟨us, []⟩ us vs Q (E σ) hr gd I.env0 bn r h) fun r s' hq => ?_)
  cases r with
  | error u => exact hx pins H s u s' I hq
  | ok fl =>
    cases fl with
    | ret u => exact I.after hq
    | _ => exact False.elim hq
theorem pe_callG (F : FnG X.prog X.w X.K X.mg X.base k f fd ps sp) (hr : Room k X.A) (gd : X.A.guards = some []) (hg : Gl X x) (hm : X.mg x = some (.ref f)) (hk : PySem.W.keepIn X.K (.ref f) = true) (hb : Binds X.K fd ps [])
    (hx : ∀ σ, PassesAt (L2N.CX X.prog X.w) X σ (E σ)) (ha : PA X (e :: es) t) (hdb : (x == ("__debug__" : Str)) = false := by decide) (he : starEach (e :: es) X.env = (false, eval e X.env) :: starEach es X.env := by rfl)
    (hpl : (backTo pos (starEach es X.env)).any (·.1) = false := by rfl) : PE X (.Call (.Name x p) (e :: es) [] pos) (tCallS sp E t) :=
  ⟨fun pins s σ H Q I h => wpAny_Call_Name_kw (ld_glob I hg hm (PySem.W.callWith_K (h₀ := X.base) I.ok.mod.kin hk
    (thn (ha.run pos pins s σ H _ I h) fun us s1 ⟨vs, H1, I1, r, q⟩ => ⟨I1.kIn, run_fng F hr gd hb (hx σ) I1 r q⟩) he hpl) hdb)⟩
end

/-! ### promises over data -/
abbrev Spec := List Cell → Wp D
/-- what a call promises: T the classes of errors -/
def spD (K : PySem.W.Frag) (T : Er → Value) (ps : List Str) (spec : Spec) : Sp := fun vs H Q E => vs.length = ps.length ∧ ∃ (S : Sg) (F : Hp) (b : Nat) (cs : List Cell) (R : Except Er D → Nat → Prop),
  S.K = K ∧ S.cls = T ∧ Ex F H ∧ StOk S F H b ∧ ArgsOk S F vs cs ∧ spec cs b R ∧
  (∀ d b', R (.ok d) b' → ∀ v F' H', StOk S F' H' b' → Ex F F' → Ex F' H' → Fr S H H' → (∀ a o, F' a = some o → F a = some o ∨ H a = none) → IsD F' v d → Q v H') ∧
  (∀ e b', R (.error e) b' → ∀ F' H', StOk S F' H' b' → Ex F F' → Ex F' H' → Fr S H H' → (∀ a o, F' a = some o → F a = some o ∨ H a = none) → E (T e) none H')
/-- what stands at an address and is a def that keeps a promise over data -/
structure Df (P : Program) (w : World) (K : PySem.W.Frag) (mg : Str → Option Value) (base : Heap) (T : Er → Value) (k : Nat) (x : Str) (f : Addr) (fd : FuncData) (ps : List Str) (spec : Spec) : Prop where
  fn : FnG P w K mg base k f fd ps (spD K T ps spec)
  at_ : mg x = some (.ref f)
  kp : PySem.W.keepIn K (.ref f) = true
  bd : Binds K fd ps []
section
variable {X : Cx} {S : Sg} {W : WX} {k : Nat} {f : Addr} {fd : FuncData} {ps : List Str} {spec : Spec} {x : Str} {p pos : Pos} {e a b : Expr} {es : List Expr}
/-- f(e, ..) -/
def wcall (fa : Env → Wp (List Cell)) (spec : Spec) : Env → Wp D := fun δ => wbind (fa δ) spec
theorem ex_call {j : Nat} {fa : Env → Wp (List Cell)} (G : Cxt X S W k) (F : Df X.prog X.w X.K X.mg X.base S.cls j x f fd ps spec) (hl : ∀ (b : Nat) (R : Except Er D → Nat → Prop) (cs : List Cell), spec cs b R → cs.length = ps.length) (hj : j ≤ k) (ha : AX X S W (e :: es) fa) (hg : Gl X x := by rfl) (hdb : (x == ("__debug__" : Str)) = false := by decide)
    (he : starEach (e :: es) X.env = (false, eval e X.env) :: starEach es X.env := by rfl) (hpl : (backTo pos (starEach es X.env)).any (·.1) = false := by rfl) : EX X S W (.Call (.Name x p) (e :: es) [] pos) (wcall fa spec) := by
  obtain ⟨ta, pa, qa⟩ := ha
  refine ⟨_, pe_callG (E := WE W) F.fn (G.room.mono hj) G.gd hg F.at_ F.kp F.bd (fun σ => L2N.passAt G.tk σ) pa hdb he hpl, ?_⟩
  intro H0 δ σ F0 H b R Q rel hf P
  show ta σ H fun vs H1 => spD X.K S.cls ps spec vs H1 Q (WE W σ)
  refine qa H0 δ σ F0 H b _ _ rel hf ⟨fun cs b' r vs F' H' q ex g o => ?_, P.er⟩
  have P' := P.at_ back_V q ex g
  have go : ∀ {F2 H2 : Hp} {b2 : Nat}, StOk S F2 H2 b2 → Ex F' F2 → Ex F2 H2 → Fr S H' H2 → (∀ a o, F2 a = some o → F' a = some o ∨ H' a = none) → Rel S H0 δ σ F2 H2 b2 := fun so x2 s2 f2 n2 => q.go x2 s2 f2 so n2
  have len : vs.length = cs.length := by
    have z : ArgsOk S F' vs cs := o
    exact Paired.length z
  refine ⟨by rw [len]; exact hl _ _ _ r, S, F', b', cs, R, G.kS, rfl, q.sub, q.sto, o, r, ?_, ?_⟩
  · intro d b2 r2 v F2 H2 so x2 s2 f2 n2 hv
    exact P'.ok d b2 r2 v F2 H2 (go so x2 s2 f2 n2) x2 ⟨f2, n2⟩ hv
  · intro er b2 r2 F2 H2 so x2 s2 f2 n2
    exact P'.er er b2 r2 F2 H2 (go so x2 s2 f2 n2) x2 ⟨f2, n2⟩
end

/-! ### statements -/
inductive Out where
  | nx (δ : Env) | rt (d : D) | bk (δ : Env) | ct (δ : Env) | er (e : Er)
abbrev SW := Env → Nat → (Out → Nat → Prop) → Prop
structure PostS (S : Sg) (W : WX) (H0 : Ent) (F : Hp) (R : Out → Nat → Prop) (D' : Ends) : Prop where
  nx : ∀ δ' b', R (.nx δ') b' → ∀ σ' F' H', Rel S H0 δ' σ' F' H' b' → Ex F F' → D'.nx σ' H'
  rt : ∀ d b', R (.rt d) b' → ∀ v δ' σ' F' H', Rel S H0 δ' σ' F' H' b' → Ex F F' → IsD F' v d → D'.rt v H'
  bk : ∀ δ' b', R (.bk δ') b' → ∀ σ' F' H', Rel S H0 δ' σ' F' H' b' → Ex F F' → D'.bk σ' H'
  ct : ∀ δ' b', R (.ct δ') b' → ∀ σ' F' H', Rel S H0 δ' σ' F' H' b' → Ex F F' → D'.ct σ' H'
  er : ∀ e b', R (.er e) b' → ∀ δ' σ' F' H', Rel S H0 δ' σ' F' H' b' → Ex F F' → W (S.cls e) none σ' H'
theorem PostS.at_ {S : Sg} {W : WX} {H0 : Ent} {F F1 : Hp} {R : Out → Nat → Prop} {D' : Ends} (P : PostS S W H0 F R D') (x : Ex F F1) : PostS S W H0 F1 R D' :=
  ⟨fun δ' b' r σ' F' H' q e => P.nx δ' b' r σ' F' H' q (x.tr e), fun d b' r v δ' σ' F' H' q e => P.rt d b' r v δ' σ' F' H' q (x.tr e), fun δ' b' r σ' F' H' q e => P.bk δ' b' r σ' F' H' q (x.tr e),
    fun δ' b' r σ' F' H' q e => P.ct δ' b' r σ' F' H' q (x.tr e), fun e b' r δ' σ' F' H' q z => P.er e b' r δ' σ' F' H' q (x.tr z)⟩
def DS (S : Sg) (W : WX) (t : TS) (f : SW) : Prop :=
  ∀ (H0 : Ent) (δ : Env) (σ : Sl) (F H : Hp) (b : Nat) (R : Out → Nat → Prop) (D' : Ends), Rel S H0 δ σ F H b → f δ b R → PostS S W H0 F R D' → t D' σ H
def SX (X : Cx) (S : Sg) (W : WX) (st : Stmt) (f : SW) : Prop := ∃ t, PS X st t ∧ DS S W t f
def SSX (X : Cx) (S : Sg) (W : WX) (st : List Stmt) (f : SW) : Prop := ∃ t, PSs X st t ∧ DS S W t f

section
variable {S : Sg} {H0 : Ent} {δ : Env} {σ : Sl} {F H : Hp} {b : Nat}
/-- a name is stored -/
theorem Rel.put (R : Rel S H0 δ σ F H b) (i : Nat) {v : V} {d : D} (h : IsD F v d) : Rel S H0 (δ.set i (some (.val d))) (σ.set i (some v)) F H b := by
  refine ⟨by rw [List.length_set, List.length_set]; exact R.len, R.sub, R.fr, R.nw, R.sto, fun j c e => ?_, fun j l c c' n e e' o o' => ?_⟩
  · by_cases z : i = j
    · subst z
      by_cases hi : i < δ.length
      · rw [List.getElem?_set_self hi] at e
        cases e
        exact ⟨v, by rw [List.getElem?_set_self (by rw [R.len]; exact hi)], h⟩
      · rw [List.getElem?_eq_none (by rw [List.length_set]; omega)] at e; cases e
    · rw [List.getElem?_set_ne z] at e ⊢
      exact R.cell j c e
  · have ni : ∀ (m : Nat) (c : Cell), (δ.set i (some (.val d)))[m]? = some (some c) → c.isOwn = true → i ≠ m := fun m c e o z => by
      subst z
      by_cases hi : i < δ.length
      · rw [List.getElem?_set_self hi] at e; cases e; cases o
      · rw [List.getElem?_eq_none (by rw [List.length_set]; omega)] at e; cases e
    have n1 := ni j c e o
    have n2 := ni l c' e' o'
    rw [List.getElem?_set_ne n1] at e ⊢
    rw [List.getElem?_set_ne n2] at e' ⊢
    exact R.sep j l c c' n e e' o o'
/-- a name is stored, a fresh object of one's own -/
theorem Rel.putOwn {F1 H1 : Hp} {b1 : Nat} (R1 : Rel S H0 δ σ F1 H1 b1) (R : Rel S H0 δ σ F H b) (i : Nat) {p : Addr} {c : Cell} (hp : H1 p = none) (h : CellOk S H0.h F H (.ref p) c) (hc : c.isOwn = true) : Rel S H0 (δ.set i (some c)) (σ.set i (some (.ref p))) F H b := by
  have pne : ∀ (m : Nat) (c' : Cell), δ[m]? = some (some c') → c'.isOwn = true → σ[m]? ≠ some (some (.ref p)) := fun m c' e o z => by
    obtain ⟨_, u, hu⟩ := R1.ownAt e o z
    rw [hp] at hu; cases hu
  refine ⟨by rw [List.length_set, List.length_set]; exact R.len, R.sub, R.fr, R.nw, R.sto, fun j c' e => ?_, fun j l c1 c2 n e e' o o' => ?_⟩
  · by_cases z : i = j
    · subst z
      by_cases hi : i < δ.length
      · rw [List.getElem?_set_self hi] at e
        cases e
        exact ⟨_, by rw [List.getElem?_set_self (by rw [R.len]; exact hi)], h⟩
      · rw [List.getElem?_eq_none (by rw [List.length_set]; omega)] at e; cases e
    · rw [List.getElem?_set_ne z] at e ⊢
      exact R.cell j c' e
  · by_cases z : i = j
    · subst z
      have z2 : i ≠ l := n
      rw [List.getElem?_set_ne z2] at e' ⊢
      by_cases hi : i < σ.length
      · rw [List.getElem?_set_self hi]
        exact fun q => pne l c2 e' o' q.symm
      · rw [List.getElem?_eq_none (by rw [List.length_set, ← R.len]; omega)] at e; cases e
    · rw [List.getElem?_set_ne z] at e ⊢
      by_cases z2 : i = l
      · subst z2
        by_cases hi : i < σ.length
        · rw [List.getElem?_set_self hi]
          exact fun q => pne j c1 e o q
        · rw [List.getElem?_eq_none (by rw [List.length_set, ← R.len]; omega)] at e'; cases e'
      · rw [List.getElem?_set_ne z2] at e' ⊢
        exact R.sep j l c1 c2 n e e' o o'
/-- an object of one's own is changed -/
theorem Rel.poke (R : Rel S H0 δ σ F H b) {i : Nat} {p : Addr} {c c' : Cell} {o : HO} (e : δ[i]? = some (some c)) (hc : c.isOwn = true) (es : σ[i]? = some (some (.ref p))) (hc' : c'.isOwn = true) (h : CellOk S H0.h F (upd H p o) (.ref p) c') : Rel S H0 (δ.set i (some c')) σ F (upd H p o) b := by
  obtain ⟨w, u, hu⟩ := R.ownAt e hc es
  have hi : i < δ.length := (List.getElem?_eq_some_iff.mp e).1
  have ns : S.on = true → S.st ≠ p := fun q => Ne.symm (w.ns q)
  refine ⟨by rw [List.length_set]; exact R.len, R.sub.over w.nf, R.fr.over w.n0, R.nw, ⟨R.sto.out, R.sto.nu, fun q => ?_, R.sto.some_⟩, fun j c2 e2 => ?_, fun j l c1 c2 n e1 e2 o1 o2 => ?_⟩
  · obtain ⟨g, g1, g2, g3⟩ := R.sto.at_ q
    exact ⟨g, g1, g2, by rw [upd_ne (ns q)]; exact g3⟩
  · by_cases z : i = j
    · subst z
      rw [List.getElem?_set_self hi] at e2
      cases e2
      exact ⟨_, es, h⟩
    · rw [List.getElem?_set_ne z] at e2
      obtain ⟨v, e3, k⟩ := R.cell j c2 e2
      refine ⟨v, e3, k.go Ex.rfl' fun o2 a ea w' => ⟨w'.nf, fun u' hu' => ?_⟩⟩
      subst ea
      have nap : a ≠ p := fun q => by
        subst q
        exact R.sep i j c c2 z e e2 hc o2 (es.trans e3.symm)
      rw [upd_ne nap]; exact hu'
  · have sub : ∀ (m : Nat) (cm : Cell), (δ.set i (some c'))[m]? = some (some cm) → cm.isOwn = true → ∃ cm', δ[m]? = some (some cm') ∧ cm'.isOwn = true := fun m cm em om => by
      by_cases z : i = m
      · subst z; exact ⟨c, e, hc⟩
      · rw [List.getElem?_set_ne z] at em; exact ⟨cm, em, om⟩
    obtain ⟨d1, f1, g1⟩ := sub j c1 e1 o1
    obtain ⟨d2, f2, g2⟩ := sub l c2 e2 o2
    exact R.sep j l d1 d2 n f1 f2 g1 g2
/-- names forgotten -/
theorem Rel.less (R : Rel S H0 δ σ F H b) {δ' : Env} {σ' : Sl} (hl : σ'.length = δ'.length) (h : ∀ (i : Nat) (c : Cell), δ'[i]? = some (some c) → δ[i]? = some (some c) ∧ σ'[i]? = σ[i]?) : Rel S H0 δ' σ' F H b :=
  ⟨hl, R.sub, R.fr, R.nw, R.sto, fun i c e => by
    obtain ⟨e1, e2⟩ := h i c e
    rw [e2]; exact R.cell i c e1, fun i j c c' n e e' o o' => by
    obtain ⟨e1, e2⟩ := h i c e
    obtain ⟨e3, e4⟩ := h j c' e'
    rw [e2, e4]; exact R.sep i j c c' n e1 e3 o o'⟩
end

section
variable {X : Cx} {S : Sg} {W : WX} {k : Nat} {st : Stmt} {rest body orelse : List Stmt} {e a c : Expr} {pos : Pos}
/-! blocks -/
def snil : SW := fun δ b R => R (.nx δ) b
def sseq (f g : SW) : SW := fun δ b R => f δ b fun o b' => match o with
  | .nx δ' => g δ' b' R
  | .rt d => R (.rt d) b'
  | .bk δ' => R (.bk δ') b'
  | .ct δ' => R (.ct δ') b'
  | .er e => R (.er e) b'
theorem ssx_nil : SSX X S W [] snil := ⟨_, pss_nil, fun H0 δ σ F H b R D' rel hf P => P.nx δ b hf σ F H rel Ex.rfl'⟩
theorem ssx_one {f : SW} (h : SX X S W st f) : SSX X S W [st] f := let ⟨t, p, q⟩ := h; ⟨t, pss_one p, q⟩
theorem ssx_cons {f g : SW} (h : SX X S W st f) (hr : SSX X S W rest g) : SSX X S W (st :: rest) (sseq f g) := by
  obtain ⟨t, p, q⟩ := h
  obtain ⟨u, p', q'⟩ := hr
  refine ⟨_, pss_cons p p', fun H0 δ σ F H b R D' rel hf P => ?_⟩
  refine q H0 δ σ F H b _ { D' with nx := u D' } rel hf ⟨fun δ' b' r σ' F' H' q2 x => ?_, fun d b' r => P.rt d b' r, fun δ' b' r => P.bk δ' b' r, fun δ' b' r => P.ct δ' b' r, fun e b' r => P.er e b' r⟩
  exact q' H0 δ' σ' F' H' b' R D' q2 r (P.at_ x)
theorem sx_pass : SX X S W (.Pass pos) snil := ⟨_, ps_pass, fun H0 δ σ F H b R D' rel hf P => P.nx δ b hf σ F H rel Ex.rfl'⟩
def sbrk : SW := fun δ b R => R (.bk δ) b
def scnt : SW := fun δ b R => R (.ct δ) b
theorem sx_break : SX X S W (.Break pos) sbrk := ⟨_, ps_break, fun H0 δ σ F H b R D' rel hf P => P.bk δ b hf σ F H rel Ex.rfl'⟩
theorem sx_continue : SX X S W (.Continue pos) scnt := ⟨_, ps_continue, fun H0 δ σ F H b R D' rel hf P => P.ct δ b hf σ F H rel Ex.rfl'⟩
/-- an expression's value, then k -/
def slift {α : Type} (f : Env → Wp α) (k : α → SW) : SW := fun δ b R => f δ b fun r b' => match r with
  | .ok x => k x δ b' R
  | .error e => R (.er e) b'
theorem ds_lift {α β : Type} {Ok : Hp → Hp → Hp → β → α → Prop} {t : Sl → Hp → (β → Hp → Prop) → Prop} {f : Env → Wp α} {tk : β → TS} {g : α → SW} (h : DG S W Ok t f)
    (hk : ∀ (H0 : Ent) (δ : Env) (σ : Sl) (F1 H1 F H : Hp) (b1 b : Nat) (R : Out → Nat → Prop) (D' : Ends) (y : β) (x : α), Rel S H0 δ σ F1 H1 b1 → Rel S H0 δ σ F H b → Ok H1 F H y x → g x δ b R → PostS S W H0 F R D' → tk y D' σ H) :
    DS S W (fun D' σ H => t σ H fun y H1 => tk y D' σ H1) (slift f g) := by
  intro H0 δ σ F H b R D' rel hf P
  refine h H0 δ σ F H b _ _ rel hf ⟨fun x b' r y F' H' q e g' o => ?_, fun e b' r F' H' q x g' => P.er e b' r δ σ F' H' q x⟩
  exact hk H0 δ σ F H F' H' b b' R D' y x rel q o r (P.at_ e)
/-- an expression alone -/
def sdrop (f : Env → Wp D) : SW := slift f fun _ => snil
theorem sx_expr {f : Env → Wp D} (h : EX X S W e f) (hs : swapsWith e none pos.line X.env = pure false := by rfl) : SX X S W (.Expr e pos) (sdrop f) := by
  obtain ⟨t, p, q⟩ := h
  exact ⟨_, ps_expr p hs, ds_lift (tk := fun _ D' σ H => D'.nx σ H) q fun H0 δ σ F1 H1 F H b1 b R D' y x r1 rel o hf P => P.nx δ b hf σ F H rel Ex.rfl'⟩
/-- return -/
def sret (f : Env → Wp D) : SW := slift f fun d _ b R => R (.rt d) b
theorem sx_ret {f : Env → Wp D} (h : EX X S W e f) : SX X S W (.Return (some e) pos) (sret f) := by
  obtain ⟨t, p, q⟩ := h
  exact ⟨_, ps_ret p, ds_lift (tk := fun y D' _ H => D'.rt y H) q fun H0 δ σ F1 H1 F H b1 b R D' y x r1 rel o hf P => P.rt x b hf y δ σ F H rel Ex.rfl' o⟩
def sretN : SW := fun _ b R => R (.rt .none) b
theorem sx_retN : SX X S W (.Return none pos) sretN := ⟨_, ps_retN, fun H0 δ σ F H b R D' rel hf P => P.rt .none b hf .non δ σ F H rel Ex.rfl' .non⟩
/-- return x: a list of one's own stands from here on -/
def sretV (i : Nat) : SW := fun δ b R => match δ[i]? with
  | some (some (.val d)) => R (.rt d) b
  | some (some (.own ds)) => R (.rt (.list ds)) b
  | _ => False
theorem Rel.let_go {S : Sg} {H0 : Ent} {δ : Env} {σ : Sl} {F H : Hp} {b : Nat} (rel : Rel S H0 δ σ F H b) {p : Addr} {o : HO} (hp : H p = some o) (w : Own S H0.h F p) : Rel S H0 (List.replicate σ.length none) σ (upd F p o) H b := by
  refine ⟨by simp, fun a u e => ?_, rel.fr, fun a u e => ?_, ⟨fun z => ?_, fun z => Ex.nw w.nf _ _ (rel.sto.nu z), rel.sto.at_, rel.sto.some_⟩, fun i c e => ?_, fun i j c c' _ e => ?_⟩
  · by_cases z : a = p
    · subst z; rw [upd_same] at e; cases e; exact hp
    · rw [upd_ne z] at e; exact rel.sub a u e
  · by_cases z : a = p
    · exact .inr (by rw [z]; exact w.n0)
    · rw [upd_ne z] at e; exact rel.nw a u e
  · rw [upd_ne (Ne.symm (w.ns z))]; exact rel.sto.out z
  · rw [List.getElem?_replicate] at e
    split at e <;> cases e
  · rw [List.getElem?_replicate] at e
    split at e <;> cases e
theorem sx_retV {i : Nat} (h : PE X e (tVar i)) : SX X S W (.Return (some e) pos) (sretV i) := by
  refine ⟨_, ps_ret h, fun H0 δ σ F H b R D' rel hf P => ?_⟩
  unfold sretV at hf
  split at hf
  · rename_i d hd
    obtain ⟨v, e1, o⟩ := rel.cell i _ hd
    exact ⟨v, e1, P.rt _ b hf v δ σ F H rel Ex.rfl' o⟩
  · rename_i ds hd
    obtain ⟨v, e1, o⟩ := rel.cell i _ hd
    obtain ⟨p, vs, rfl, w, hp, q⟩ := o
    have ex : Ex F (upd F p (.lst vs)) := Ex.nw w.nf
    exact ⟨_, e1, P.rt _ b hf _ _ σ _ H (rel.let_go hp w) ex (.lst upd_same (q.mono ex))⟩
  · exact hf.elim
/-! if -/
def sif (c : Env → Wp Bool) (f g : SW) : SW := slift c fun x => match x with
  | true => f
  | false => g
theorem sx_if {fc : Env → Wp Bool} {f g : SW} (hc : BX X S W c fc) (ha : SSX X S W body f) (hb : SSX X S W orelse g) : SX X S W (.If c body orelse pos) (sif fc f g) := by
  obtain ⟨t, p, q⟩ := hc
  obtain ⟨t1, p1, q1⟩ := ha
  obtain ⟨t2, p2, q2⟩ := hb
  refine ⟨_, ps_if p p1 p2, ds_lift (tk := fun y D' σ H => if y = true then t1 D' σ H else t2 D' σ H) q fun H0 δ σ F1 H1 F H b1 b R D' y x r1 rel o hf P => ?_⟩
  cases o
  cases y with
  | true => show t1 D' σ H; exact q1 H0 δ σ F H b R D' rel hf P
  | false => show t2 D' σ H; exact q2 H0 δ σ F H b R D' rel hf P
/-! name = e -/
def sasg (i : Nat) (f : Env → Wp D) : SW := slift f fun d δ b R => R (.nx (δ.set i (some (.val d)))) b
theorem sx_asg {i : Nat} {x : Str} {pos' : Pos} {f : Env → Wp D} (hN : X.N.Nodup) (hi : X.N[i]? = some x) (hx : Loc X.env.scope x) (h : EX X S W e f) (hs : swapsWith e (some (.Name x pos')) pos.line X.env = pure false := by rfl)
    (hf : X.fn x = true ∨ X.env.scope.names.lookup x = some .local := by first | exact .inl rfl | exact .inr rfl | assumption) : SX X S W (.Assign [.Name x pos'] e pos) (sasg i f) := by
  obtain ⟨t, p, q⟩ := h
  exact ⟨_, ps_set hN hi hx p hs hf, ds_lift (tk := fun y D' σ H => D'.nx (σ.set i (some y)) H) q fun H0 δ σ F1 H1 F H b1 b R D' y x r1 rel o hf P => P.nx _ b hf _ F H (rel.put i o) Ex.rfl'⟩
/-- .. a list that will change -/
def sasgF (i : Nat) (f : Env → Wp (List D)) : SW := slift f fun d δ b R => R (.nx (δ.set i (some (.own d)))) b
theorem Rel.ownNew {S : Sg} {H0 : Ent} {δ : Env} {σ : Sl} {F H F1 H1 : Hp} {b b1 : Nat} (R1 : Rel S H0 δ σ F1 H1 b1) (R : Rel S H0 δ σ F H b) {p : Addr} (hp : H1 p = none) (hf : F p = none) : Own S H0.h F p :=
  ⟨hf, R1.fr.free R1.sto hp, R1.sto.here hp⟩
theorem sx_asgF {i : Nat} {x : Str} {pos' : Pos} {f : Env → Wp (List D)} (hN : X.N.Nodup) (hi : X.N[i]? = some x) (hx : Loc X.env.scope x) (h : EF X S W e f) (hs : swapsWith e (some (.Name x pos')) pos.line X.env = pure false := by rfl)
    (hf : X.fn x = true ∨ X.env.scope.names.lookup x = some .local := by first | exact .inl rfl | exact .inr rfl | assumption) : SX X S W (.Assign [.Name x pos'] e pos) (sasgF i f) := by
  obtain ⟨t, p, q⟩ := h
  refine ⟨_, ps_set hN hi hx p hs hf, ds_lift (tk := fun y D' σ H => D'.nx (σ.set i (some y)) H) q fun H0 δ σ F1 H1 F H b1 b R D' y x r1 rel o hf P => ?_⟩
  obtain ⟨n, vs, rfl, hn, hp, hF, hd⟩ := o
  exact P.nx _ b hf _ F H (r1.putOwn rel i hn ⟨n, vs, rfl, r1.ownNew rel hn hF, hp, hd⟩ rfl) Ex.rfl'
/-! name += e, ints -/
def saug (i : Nat) (g : Int → Int → Int) (f : Env → Wp D) : SW := fun δ b R => match δ[i]? with
  | some (some (.val (.int n))) => f δ b fun r b' => match r with
    | .ok (.int m) => R (.nx (δ.set i (some (.val (.int (g n m)))))) b'
    | .ok _ => False
    | .error e => R (.er e) b'
  | _ => False
theorem sx_aug {i : Nat} {x : Str} {op : Operator} {pos' : Pos} {g : Int → Int → Int} {f : Env → Wp D} (ho : OpR X (inplaceOp op) (rI0 fun i j => .int (g i j))) (hN : X.N.Nodup) (hi : X.N[i]? = some x) (hx : Loc X.env.scope x) (h : EX X S W e f)
    (hf : X.fn x = true ∨ X.env.scope.names.lookup x = some .local := by first | exact .inl rfl | exact .inr rfl | assumption) : SX X S W (.AugAssign (.Name x pos') op e pos) (saug i g f) := by
  obtain ⟨t, p, q⟩ := h
  refine ⟨_, ps_aug hN hi hx p (ti := rI0 fun i j => .int (g i j)) ho hf, fun H0 δ σ F H b R D' rel hf P => ?_⟩
  unfold saug at hf
  split at hf
  · rename_i n hd
    obtain ⟨v, e1, o⟩ := rel.cell i _ hd
    cases o
    refine ⟨_, e1, q H0 δ σ F H b _ _ rel hf ⟨fun x b' r y F' H' q2 ex g' o2 => ?_, fun e b' r F' H' q2 x g' => P.er e b' r δ σ F' H' q2 x⟩⟩
    cases x with
    | int m =>
      cases o2
      exact ⟨n, m, rfl, rfl, P.nx _ b' r _ F' H' (q2.put i (.int _)) ex⟩
    | _ => exact r.elim
  · exact hf.elim
end
end BB
set_option Elab.async false
set_option linter.all false
set_option maxRecDepth 100000
set_option autoImplicit false
set_option maxHeartbeats 2000000
/-! Bb4: targets, what is walked, for, while, list comprehensions. -/
namespace BB
open PySem PySem.Spec PyProof.Rows L2

/-! ### targets -/
abbrev TgW := D → Env → (Env → Prop) → Prop
abbrev TgsW := List D → Env → (Env → Prop) → Prop
/-- these names alone have changed -/
def OutS (is : List Nat) (σ σ' : Sl) : Prop := σ'.length = σ.length ∧ ∀ i, i ∉ is → σ'[i]? = σ[i]?
def DGt (S : Sg) (is : List Nat) (g : TG) (f : TgW) : Prop := ∀ (H0 : Ent) (δ : Env) (σ : Sl) (F H : Hp) (b : Nat) (v : V) (d : D) (K' : Env → Prop) (Q : Sl → Hp → Prop), Rel S H0 δ σ F H b → IsD F v d → f d δ K' →
  (∀ δ' σ', K' δ' → Rel S H0 δ' σ' F H b → OutS is σ σ' → Q σ' H) → g v σ H Q
def DGts (S : Sg) (is : List Nat) (g : TGs) (f : TgsW) : Prop := ∀ (H0 : Ent) (δ : Env) (σ : Sl) (F H : Hp) (b : Nat) (vs : List V) (ds : List D) (K' : Env → Prop) (Q : Sl → Hp → Prop), Rel S H0 δ σ F H b → IsDs F vs ds → f ds δ K' →
  (∀ δ' σ', K' δ' → Rel S H0 δ' σ' F H b → OutS is σ σ' → Q σ' H) → g vs σ H Q
def GX (X : Cx) (S : Sg) (is : List Nat) (tg : Expr) (f : TgW) : Prop := ∃ g, PG X tg g ∧ DGt S is g f
def GXs (X : Cx) (S : Sg) (is : List Nat) (tg : List Expr) (f : TgsW) : Prop := ∃ g, PGs X tg g ∧ DGts S is g f
theorem OutS.rfl' {is : List Nat} {σ : Sl} : OutS is σ σ := ⟨rfl, fun _ _ => rfl⟩
section
variable {X : Cx} {S : Sg} {W : WX} {k : Nat} {is js : List Nat} {e a b tg iter : Expr} {es : List Expr} {pos : Pos}
def tgn (i : Nat) : TgW := fun d δ K => K (δ.set i (some (.val d)))
theorem gx_name {i : Nat} {x : Str} (hN : X.N.Nodup) (hi : X.N[i]? = some x) (hx : Loc X.env.scope x) (hf : X.fn x = true ∨ X.env.scope.names.lookup x = some .local := by first | exact .inl rfl | exact .inr rfl | assumption) : GX X S [i] (.Name x pos) (tgn i) := by
  refine ⟨_, pg_name hN hi hx hf, fun H0 δ σ F H b v d K' Q rel o hf kq => ?_⟩
  exact kq _ _ hf (rel.put i o) ⟨by rw [List.length_set], fun j hj => List.getElem?_set_ne fun z => hj (by rw [z]; simp)⟩
def tgs0 : TgsW := fun ds δ K => match ds with
  | [] => K δ
  | _ => False
def tgs1 (f : TgW) (g : TgsW) : TgsW := fun ds δ K => match ds with
  | [] => False
  | d :: r => f d δ fun δ1 => g r δ1 K
theorem gxs_nil : GXs X S [] [] tgs0 := by
  refine ⟨_, pgs_nil, fun H0 δ σ F H b vs ds K' Q rel o hf kq => ?_⟩
  cases o with
  | nil => exact ⟨rfl, kq _ _ hf rel OutS.rfl'⟩
  | cons _ _ => exact hf.elim
theorem gxs_cons {f : TgW} {g : TgsW} (h : GX X S is e f) (hr : GXs X S js es g) (hs : (assignEach (e :: es) X.env).map (·.2) = assign e X.env :: (assignEach es X.env).map (·.2) := by rfl) : GXs X S (is ++ js) (e :: es) (tgs1 f g) := by
  obtain ⟨t, p, q⟩ := h
  obtain ⟨u, p', q'⟩ := hr
  refine ⟨_, pgs_cons p p' hs, fun H0 δ σ F H b vs ds K' Q rel o hf kq => ?_⟩
  cases o with
  | nil => exact hf.elim
  | cons o1 o2 =>
    refine ⟨_, _, rfl, q H0 δ σ F H b _ _ _ _ rel o1 hf fun δ1 σ1 k1 r1 z1 => ?_⟩
    exact q' H0 δ1 σ1 F H b _ _ K' Q r1 o2 k1 fun δ' σ' k2 r2 z2 => kq δ' σ' k2 r2 ⟨z2.1.trans z1.1, fun i hi => (z2.2 i fun z => hi (List.mem_append_right _ z)).trans (z1.2 i fun z => hi (List.mem_append_left _ z))⟩
def tgt (n : Nat) (f : TgsW) : TgW := fun d δ K => match d with
  | .tuple ds => ds.length = n ∧ f ds δ K
  | _ => False
theorem gx_tup {n kt : Nat} {f : TgsW} (hc : X.calm = true) (h : GXs X S is es f) (hn : (assignEach es X.env).length = n := by rfl) (hst : (assignEach es X.env).findIdx? (·.1) = none := by rfl) : GX X S is (.Tuple es kt pos) (tgt n f) := by
  obtain ⟨t, p, q⟩ := h
  refine ⟨_, pg_tup hc p hn hst, fun H0 δ σ F H b v d K' Q rel o hf kq => ?_⟩
  cases d with
  | tuple ds =>
    cases o with
    | tup h1 h2 => exact ⟨_, _, rfl, SqT.of (rel.sub _ _ h1), by rw [h2.length]; exact hf.1, q H0 δ σ F H b _ _ K' Q rel h2 hf.2 kq⟩
  | _ => exact hf.elim
theorem wipe_at {σ : Sl} : ∀ (vs : List Nat) (i : Nat), (wipe σ vs)[i]? = if i ∈ vs ∧ i < σ.length then some none else σ[i]?
  | [], i => by simp [wipe]
  | v :: vs, i => by
    show ((wipe σ vs).set v none)[i]? = _
    by_cases h : v = i
    · subst h
      by_cases hl : v < σ.length
      · rw [List.getElem?_set_self (by rw [wipe_length]; exact hl), if_pos ⟨List.mem_cons_self, hl⟩]
      · rw [List.getElem?_eq_none (by rw [List.length_set, wipe_length]; omega), if_neg (fun z => hl z.2), List.getElem?_eq_none (by omega)]
    · rw [List.getElem?_set_ne h, wipe_at vs i]
      by_cases hm : i ∈ vs
      · by_cases hl : i < σ.length
        · rw [if_pos ⟨hm, hl⟩, if_pos ⟨List.mem_cons_of_mem _ hm, hl⟩]
        · rw [if_neg (fun z => hl z.2), if_neg (fun z => hl z.2)]
      · rw [if_neg (fun z => hm z.1), if_neg (fun z => (List.mem_cons.mp z.1).elim (fun q => h q.symm) hm)]
theorem OutS.wipe {σ σ' : Sl} {vs : List Nat} (h : OutS is σ σ') (hs : ∀ i ∈ is, i ∈ vs) : L2.wipe σ' vs = L2.wipe σ vs := by
  refine List.ext_getElem? fun i => ?_
  rw [wipe_at, wipe_at, h.1]
  by_cases hm : i ∈ vs
  · by_cases hl : i < σ.length
    · rw [if_pos ⟨hm, hl⟩, if_pos ⟨hm, hl⟩]
    · rw [if_neg (fun z => hl z.2), if_neg (fun z => hl z.2), List.getElem?_eq_none (by rw [h.1]; omega), List.getElem?_eq_none (by omega)]
  · rw [if_neg (fun z => hm z.1), if_neg (fun z => hm z.1)]
    exact h.2 i fun z => hm (hs i z)
/-- the names of a comprehension's own forgotten -/
def wipeE (δ : Env) : List Nat → Env
  | [] => δ
  | v :: vs => (wipeE δ vs).set v none
theorem wipeE_at {δ : Env} : ∀ (vs : List Nat) (i : Nat) (c : Cell), (wipeE δ vs)[i]? = some (some c) → δ[i]? = some (some c) ∧ i ∉ vs
  | [], i, c, h => ⟨h, by simp⟩
  | v :: vs, i, c, h => by
    have h' : ((wipeE δ vs).set v none)[i]? = some (some c) := h
    by_cases z : v = i
    · subst z
      by_cases hl : v < (wipeE δ vs).length
      · rw [List.getElem?_set_self hl] at h'; cases h'
      · rw [List.getElem?_eq_none (by rw [List.length_set]; omega)] at h'; cases h'
    · rw [List.getElem?_set_ne z] at h'
      obtain ⟨h1, h2⟩ := wipeE_at vs i c h'
      exact ⟨h1, fun q => (List.mem_cons.mp q).elim (fun q => z q.symm) h2⟩
theorem wipeE_length {δ : Env} : ∀ vs : List Nat, (wipeE δ vs).length = δ.length
  | [] => rfl
  | v :: vs => by show ((wipeE δ vs).set v none).length = _; rw [List.length_set, wipeE_length vs]
theorem Rel.wipe {H0 : Ent} {δ : Env} {σ : Sl} {F H : Hp} {b : Nat} (R : Rel S H0 δ σ F H b) (vs : List Nat) : Rel S H0 (wipeE δ vs) (L2.wipe σ vs) F H b :=
  R.less (by rw [wipe_length, wipeE_length]; exact R.len) fun i c e => by
    obtain ⟨h1, h2⟩ := wipeE_at vs i c e
    exact ⟨h1, by rw [wipe_at, if_neg (fun z => h2 z.1)]⟩

/-! ### what is walked -/
/-- J gives the data ds, whatever is made meanwhile (fr: nothing of one's own changes) -/
def ItOk (S : Sg) (fr : Bool) : Hp → Hp → Hp → It → List D → Prop := fun _ F H J ds => ∀ F2 H2, Ex F F2 → Ex F2 H2 → (fr = true → Fr S H H2) →
  (∀ i d, ds[i]? = some d → J.go i H2 ∧ ∀ x H3, J.yld i H2 x H3 → ∃ F3, ((F3 = F2 ∧ H3 = H2) ∨ ∃ p o, H2 p = none ∧ F3 = upd F2 p o ∧ H3 = upd H2 p o) ∧ IsD F3 x d) ∧ J.stop ds.length H2
def IX (X : Cx) (S : Sg) (W : WX) (fr : Bool) (tg e : Expr) (f : Env → Wp (List D)) : Prop := ∃ wi, PI X tg e wi ∧ DG S W (ItOk S fr) wi f
theorem back_I {fr : Bool} : Back (ItOk S fr) := fun _ _ _ _ _ _ _ h => h
theorem IX.c {f : Env → Wp (List D)} (h : IX X S W false tg e f) : IX X S W true tg e f := by
  obtain ⟨wi, p, q⟩ := h
  refine ⟨wi, p, fun H0 δ σ F H b R Q rel hf P => q H0 δ σ F H b R Q rel hf ⟨fun x b' r y F' H' q' ex g o => P.ok x b' r y F' H' q' ex g fun F2 H2 x1 x2 x3 => ?_, P.er⟩⟩
  exact o F2 H2 x1 x2 (fun z => by cases z)
/-- a list's or a tuple's items -/
def witems (f : Env → Wp D) : Env → Wp (List D) := fun δ => wbind (f δ) fun d b R => match d with
  | .list ds => R (.ok ds) b
  | .tuple ds => R (.ok ds) b
  | _ => False
def wlitems (f : Env → Wp D) : Env → Wp (List D) := fun δ => wbind (f δ) fun d b R => match d with
  | .list ds => R (.ok ds) b
  | _ => False
def wtitems (f : Env → Wp D) : Env → Wp (List D) := fun δ => wbind (f δ) fun d b R => match d with
  | .tuple ds => R (.ok ds) b
  | _ => False
theorem itok_list {K : PySem.W.Frag} {fr : Bool} {F H Hx : Hp} {p : Addr} {vs : List V} {ds : List D} (h : ∀ F2 H2, Ex F F2 → Ex F2 H2 → (fr = true → Fr S H H2) → H2 p = some (.lst vs)) (hd : IsDs F vs ds) : ItOk S fr Hx F H (Itl K p) ds := by
  intro F2 H2 x1 x2 x3
  have hp := h F2 H2 x1 x2 x3
  refine ⟨fun i d e => ?_, ⟨vs, SqL.of hp, by rw [hd.length]; exact Nat.le_refl _⟩⟩
  obtain ⟨v, e1, o⟩ := hd.get e
  refine ⟨⟨vs, v, SqL.of hp, e1⟩, fun x H3 y => ⟨F2, ?_⟩⟩
  obtain ⟨rfl, y⟩ := y
  have e2 := y vs (SqL.of hp)
  rw [e1] at e2; cases e2
  exact ⟨.inl ⟨rfl, rfl⟩, o.mono x1⟩
theorem itok_tup {K : PySem.W.Frag} {fr : Bool} {F H Hx : Hp} {p : Addr} {vs : List V} {ds : List D} (h : F p = some (.tup vs)) (hd : IsDs F vs ds) : ItOk S fr Hx F H (Itt K p) ds := by
  intro F2 H2 x1 x2 x3
  have hp : SqT K H2 p vs := SqT.of (x2 _ _ (x1 _ _ h))
  refine ⟨fun i d e => ?_, ⟨vs, hp, by rw [hd.length]; exact Nat.le_refl _⟩⟩
  obtain ⟨v, e1, o⟩ := hd.get e
  refine ⟨⟨vs, v, hp, e1⟩, fun x H3 y => ⟨F2, ?_⟩⟩
  obtain ⟨rfl, y⟩ := y
  have e2 := y vs hp
  rw [e1] at e2; cases e2
  exact ⟨.inl ⟨rfl, rfl⟩, o.mono x1⟩
/-- a walk over a list that nobody changes; l: a list, t: a tuple -/
theorem ix_lst {f : Env → Wp D} (h : EX X S W e f) : IX X S W false tg e (wlitems f) := by
  obtain ⟨t, p, q⟩ := h
  refine ⟨_, pi_list p, ?_⟩
  refine dg_seq (t2 := fun x _ H (R : It → Hp → Prop) => ∃ a, x = .ref a ∧ (∃ xs, SqL X.K H a xs) ∧ R (Itl X.K a) H) q back_I fun H0 δ σ Hp0 F H b R Q v x rel o hf P => ?_
  cases x with
  | list ds =>
    cases o with
    | lst h1 h2 => exact ⟨_, rfl, ⟨_, SqL.of (rel.sub _ _ h1)⟩, P.now rel hf (itok_list (fun F2 H2 x1 x2 _ => x2 _ _ (x1 _ _ h1)) h2)⟩
  | _ => exact hf.elim
theorem ix_tup {f : Env → Wp D} (h : EX X S W e f) : IX X S W false tg e (wtitems f) := by
  obtain ⟨t, p, q⟩ := h
  refine ⟨_, pi_tup p, ?_⟩
  refine dg_seq (t2 := fun x _ H (R : It → Hp → Prop) => ∃ a, x = .ref a ∧ (∃ xs, SqT X.K H a xs) ∧ R (Itt X.K a) H) q back_I fun H0 δ σ Hp0 F H b R Q v x rel o hf P => ?_
  cases x with
  | tuple ds =>
    cases o with
    | tup h1 h2 => exact ⟨_, rfl, ⟨_, SqT.of (rel.sub _ _ h1)⟩, P.now rel hf (itok_tup h1 h2)⟩
  | _ => exact hf.elim
/-- .. over a list that may be one's own (in a comprehension) -/
theorem ix_lstT {f : Env → Wp D} (h : ET X S W e f) : IX X S W true tg e (wlitems f) := by
  obtain ⟨t, p, q⟩ := h
  refine ⟨_, pi_list p, ?_⟩
  refine dg_seq (t2 := fun x _ H (R : It → Hp → Prop) => ∃ a, x = .ref a ∧ (∃ xs, SqL X.K H a xs) ∧ R (Itl X.K a) H) q back_I fun H0 δ σ Hp0 F H b R Q v x rel o hf P => ?_
  cases x with
  | list ds =>
    have ns : ∃ a vs, v = .ref a ∧ H a = some (.lst vs) ∧ IsDs F vs ds ∧ (S.on = true → a ≠ S.st) := by
      rcases o with o | ⟨a, vs, ds', e1, e2, e3, e4, e5⟩
      · cases o with
        | lst h1 h2 => exact ⟨_, _, rfl, rel.sub _ _ h1, h2, fun z q => by rw [q, rel.sto.out z] at h1; cases h1⟩
      · cases e2; exact ⟨a, vs, e1, e3, e4, e5⟩
    obtain ⟨a, vs, rfl, h1, h2, h3⟩ := ns
    exact ⟨_, rfl, ⟨_, SqL.of h1⟩, P.now rel hf (itok_list (fun F2 H2 x1 x2 x3 => x3 rfl a _ h1 h3) h2)⟩
  | _ => exact hf.elim
/-! range -/
def rangeD (lo n : Int) : List D := (List.range (n - lo).toNat).map fun (i : Nat) => PyData.int (lo + (i : Int))
theorem itok_rng {fr : Bool} {F H Hx : Hp} (lo hi : Int) : ItOk S fr Hx F H (Itr lo (hi - lo).toNat) (rangeD lo hi) := by
  intro F2 H2 x1 x2 x3
  have hl : (rangeD lo hi).length = (hi - lo).toNat := by unfold rangeD; rw [List.length_map, List.length_range]
  refine ⟨fun i d e => ?_, Nat.le_of_eq hl.symm⟩
  have hi' : i < (hi - lo).toNat := by rw [← hl]; exact (List.getElem?_eq_some_iff.mp e).1
  refine ⟨hi', fun x H3 y => ⟨F2, ?_⟩⟩
  obtain ⟨rfl, rfl⟩ := y
  unfold rangeD at e
  rw [List.getElem?_map, List.getElem?_range hi'] at e
  cases e
  exact ⟨.inl ⟨rfl, rfl⟩, .int _⟩
def big62 (i : Int) : Prop := -(2 ^ 62) ≤ i ∧ i < 2 ^ 62
def kRange1 : List D → Wp (List D) := fun ds b R => match ds with
  | [.int n] => big62 n ∧ R (.ok (rangeD 0 n)) b
  | _ => False
def kRange2 : List D → Wp (List D) := fun ds b R => match ds with
  | [.int lo, .int n] => (big62 lo ∧ big62 n) ∧ R (.ok (rangeD lo n)) b
  | _ => False
def wk {α β : Type} (k : α → Wp β) (f : Env → Wp α) : Env → Wp β := fun δ => wbind (f δ) k
theorem isds1 {F : Hp} {vs : List V} {d : D} (h : IsDs F vs [d]) : ∃ v, vs = [v] ∧ IsD F v d := by
  cases h with
  | cons a b => cases b; exact ⟨_, rfl, a⟩
theorem isds2 {F : Hp} {vs : List V} {d d' : D} (h : IsDs F vs [d, d']) : ∃ v v', vs = [v, v'] ∧ IsD F v d ∧ IsD F v' d' := by
  cases h with
  | cons a b =>
    obtain ⟨v', rfl, o⟩ := isds1 b
    exact ⟨_, _, rfl, a, o⟩
theorem ix_range1 {p : Pos} {f : Env → Wp (List D)} (hm : X.mg "range" = none) (ha : LX X S W [a] f) (hg : Gl X "range" := by rfl) (hs : starEach [a] X.env = [(false, eval a X.env)] := by rfl) : IX X S W false tg (.Call (.Name "range" p) [a] [] pos) (wk kRange1 f) := by
  obtain ⟨t, pa, q⟩ := ha
  refine ⟨_, pi_range1 hg hm pa hs, ?_⟩
  refine dg_seq (t2 := fun vs _ H (R : It → Hp → Prop) => ∃ j : Int, vs = [.int j] ∧ -(2 ^ 62) ≤ j ∧ j < 2 ^ 62 ∧ R (Itr 0 j.toNat) H) (f2 := fun ds _ => kRange1 ds) q back_I fun H0 δ σ Hp0 F H b R Q v x rel o hf P => ?_
  unfold kRange1 at hf
  split at hf
  · rename_i n
    obtain ⟨u, rfl, o1⟩ := isds1 o
    cases o1
    have it : ItOk S false H F H (Itr 0 n.toNat) (rangeD 0 n) := by
      have z := itok_rng (S := S) (fr := false) (F := F) (H := H) (Hx := H) 0 n
      rw [Int.sub_zero] at z; exact z
    exact ⟨n, rfl, hf.1.1, hf.1.2, P.now rel hf.2 it⟩
  · exact hf.elim
theorem ix_range2 {p : Pos} {f : Env → Wp (List D)} (hm : X.mg "range" = none) (ha : LX X S W [a, b] f) (hg : Gl X "range" := by rfl) (hs : starEach [a, b] X.env = [(false, eval a X.env), (false, eval b X.env)] := by rfl)
    (hs2 : starEach [b] X.env = [(false, eval b X.env)] := by rfl) : IX X S W false tg (.Call (.Name "range" p) [a, b] [] pos) (wk kRange2 f) := by
  obtain ⟨t, pa, q⟩ := ha
  refine ⟨_, pi_range2 hg hm pa hs hs2, ?_⟩
  refine dg_seq (t2 := fun vs _ H (R : It → Hp → Prop) => ∃ i j : Int, vs = [.int i, .int j] ∧ (-(2 ^ 62) ≤ i ∧ i < 2 ^ 62 ∧ -(2 ^ 62) ≤ j ∧ j < 2 ^ 62) ∧ R (Itr i (j - i).toNat) H) (f2 := fun ds _ => kRange2 ds) q back_I fun H0 δ σ Hp0 F H b R Q v x rel o hf P => ?_
  unfold kRange2 at hf
  split at hf
  · rename_i lo n
    obtain ⟨u, u', rfl, o1, o2⟩ := isds2 o
    cases o1
    cases o2
    exact ⟨lo, n, rfl, ⟨hf.1.1.1, hf.1.1.2, hf.1.2.1, hf.1.2.2⟩, P.now rel hf.2 (itok_rng lo n)⟩
  · exact hf.elim
/-! zip, enumerate -/
def zipD (xs ys : List D) : List D := (xs.zip ys).map fun p => PyData.tuple [p.1, p.2]
def kZip : List D → Wp (List D) := fun ds b R => match ds with
  | [.list xs, .list ys] => R (.ok (zipD xs ys)) b
  | [.tuple xs, .tuple ys] => R (.ok (zipD xs ys)) b
  | _ => False
theorem ix_zip {p tpos : Pos} {elts : List Expr} {kk : Nat} {f : Env → Wp (List D)} (hm : X.mg "zip" = none) (ha : LX X S W [a, b] f) (hg : Gl X "zip" := by rfl)
    (hs : starEach [a, b] X.env = (false, eval a X.env) :: starEach [b] X.env := by rfl) (hpl : (backTo pos (starEach [b] X.env)).any (·.1) = false := by rfl) :
    IX X S W false (.Tuple elts kk tpos) (.Call (.Name "zip" p) [a, b] [] pos) (wk kZip f) := by
  obtain ⟨t, pa, q⟩ := ha
  refine ⟨_, RZ.pi_zipA hg hm pa hs hpl, ?_⟩
  refine dg_seq (t2 := fun vs _ H (R : It → Hp → Prop) => ∃ a b xs ys, vs = [.ref a, .ref b] ∧ ((SqL X.K H a xs ∧ SqL X.K H b ys ∧ R (Itz X.K a b) H) ∨ (SqT X.K H a xs ∧ SqT X.K H b ys ∧ R (RZ.ItzT X.K a b) H))) (f2 := fun ds _ => kZip ds) q back_I fun H0 δ σ Hp0 F H b R Q v x rel o hf P => ?_
  have getz : ∀ {vs us : List V} {xs ys : List D} {i : Nat} {d : D}, IsDs F vs xs → IsDs F us ys → (zipD xs ys)[i]? = some d → ∃ v u x y, d = .tuple [x, y] ∧ vs[i]? = some v ∧ us[i]? = some u ∧ IsD F v x ∧ IsD F u y := fun {vs us xs ys i d} h1 h2 e => by
    unfold zipD at e
    rw [List.getElem?_map] at e
    cases q : (xs.zip ys)[i]? with
    | none => rw [q] at e; cases e
    | some p =>
      rw [q] at e
      cases e
      obtain ⟨e1, e2⟩ := List.getElem?_zip_eq_some.mp q
      obtain ⟨v, e3, o1⟩ := h1.get e1
      obtain ⟨u, e4, o2⟩ := h2.get e2
      exact ⟨v, u, p.1, p.2, rfl, e3, e4, o1, o2⟩
  have lenz : ∀ xs ys : List D, (zipD xs ys).length = min xs.length ys.length := fun xs ys => by unfold zipD; rw [List.length_map, List.length_zip]
  unfold kZip at hf
  split at hf
  · rename_i xs ys
    obtain ⟨u, u', rfl, o1, o2⟩ := isds2 o
    cases o1 with
    | lst h1 r1 =>
      cases o2 with
      | lst h2 r2 =>
        refine ⟨_, _, _, _, rfl, .inl ⟨SqL.of (rel.sub _ _ h1), SqL.of (rel.sub _ _ h2), P.now rel hf fun F2 H2 x1 x2 _ => ⟨fun i d e => ?_, ?_⟩⟩⟩
        · have g1 : SqL X.K H2 _ _ := SqL.of (x2 _ _ (x1 _ _ h1))
          have g2 : SqL X.K H2 _ _ := SqL.of (x2 _ _ (x1 _ _ h2))
          obtain ⟨v, u, x, y, rfl, e1, e2, q1, q2⟩ := getz r1 r2 e
          refine ⟨⟨_, _, v, u, g1, g2, e1, e2⟩, fun z H3 hy => ?_⟩
          obtain ⟨T, v', u', rfl, nT, rfl, f1, f2⟩ := hy
          have ev := f1 _ g1
          rw [e1] at ev; cases ev
          have eu := f2 _ g2
          rw [e2] at eu; cases eu
          have ex : Ex F2 (upd F2 T (.tup [v, u])) := Ex.nw (x2.free nT)
          exact ⟨_, .inr ⟨T, _, nT, rfl, rfl⟩, .tup upd_same (.cons (q1.mono (x1.tr ex)) (.cons (q2.mono (x1.tr ex)) .nil))⟩
        · refine ⟨_, _, SqL.of (x2 _ _ (x1 _ _ h1)), SqL.of (x2 _ _ (x1 _ _ h2)), ?_⟩
          rw [lenz, r1.length, r2.length]; omega
  · rename_i xs ys
    obtain ⟨u, u', rfl, o1, o2⟩ := isds2 o
    cases o1 with
    | tup h1 r1 =>
      cases o2 with
      | tup h2 r2 =>
        refine ⟨_, _, _, _, rfl, .inr ⟨SqT.of (rel.sub _ _ h1), SqT.of (rel.sub _ _ h2), P.now rel hf fun F2 H2 x1 x2 _ => ⟨fun i d e => ?_, ?_⟩⟩⟩
        · have g1 : SqT X.K H2 _ _ := SqT.of (x2 _ _ (x1 _ _ h1))
          have g2 : SqT X.K H2 _ _ := SqT.of (x2 _ _ (x1 _ _ h2))
          obtain ⟨v, u, x, y, rfl, e1, e2, q1, q2⟩ := getz r1 r2 e
          refine ⟨⟨_, _, v, u, g1, g2, e1, e2⟩, fun z H3 hy => ?_⟩
          obtain ⟨T, v', u', rfl, nT, rfl, f1, f2⟩ := hy
          have ev := f1 _ g1
          rw [e1] at ev; cases ev
          have eu := f2 _ g2
          rw [e2] at eu; cases eu
          have ex : Ex F2 (upd F2 T (.tup [v, u])) := Ex.nw (x2.free nT)
          exact ⟨_, .inr ⟨T, _, nT, rfl, rfl⟩, .tup upd_same (.cons (q1.mono (x1.tr ex)) (.cons (q2.mono (x1.tr ex)) .nil))⟩
        · refine ⟨_, _, SqT.of (x2 _ _ (x1 _ _ h1)), SqT.of (x2 _ _ (x1 _ _ h2)), ?_⟩
          rw [lenz, r1.length, r2.length]; omega
  · exact hf.elim
def enumD (i : Nat) : List D → List D
  | [] => []
  | d :: ds => .tuple [.int (i : Nat), d] :: enumD (i + 1) ds
theorem enumD_len : ∀ (i : Nat) (ds : List D), (enumD i ds).length = ds.length
  | _, [] => rfl
  | i, d :: ds => by rw [enumD, List.length_cons, List.length_cons, enumD_len]
theorem enumD_get : ∀ (ds : List D) (i j : Nat) (d : D), (enumD i ds)[j]? = some d → ∃ x, ds[j]? = some x ∧ d = .tuple [.int ((i + j : Nat) : Int), x]
  | [], _, _, _, e => by simp [enumD] at e
  | x :: ds, i, 0, d, e => by
    rw [enumD] at e
    exact ⟨x, rfl, (Option.some.inj e).symm⟩
  | x :: ds, i, j + 1, d, e => by
    rw [enumD, List.getElem?_cons_succ] at e
    obtain ⟨y, e1, e2⟩ := enumD_get ds (i + 1) j d e
    exact ⟨y, by rw [List.getElem?_cons_succ]; exact e1, by rw [e2, show i + 1 + j = i + (j + 1) by omega]⟩
def kEnumL : List D → Wp (List D) := fun ds b R => match ds with
  | [.list xs] => R (.ok (enumD 0 xs)) b
  | _ => False
theorem ix_enumL {p tpos : Pos} {elts : List Expr} {kk : Nat} {f : Env → Wp (List D)} (hm : X.mg "enumerate" = none) (ha : LX X S W [a] f) (hg : Gl X "enumerate" := by rfl)
    (hs : starEach [a] X.env = [(false, eval a X.env)] := by rfl) : IX X S W false (.Tuple elts kk tpos) (.Call (.Name "enumerate" p) [a] [] pos) (wk kEnumL f) := by
  obtain ⟨t, pa, q⟩ := ha
  refine ⟨_, pi_enum hg hm pa hs, ?_⟩
  refine dg_seq (t2 := fun vs _ H (R : It → Hp → Prop) => ∃ a xs, vs = [.ref a] ∧ SqL X.K H a xs ∧ R (Ite X.K a) H) (f2 := fun ds _ => kEnumL ds) q back_I fun H0 δ σ Hp0 F H b R Q v x rel o hf P => ?_
  unfold kEnumL at hf
  split at hf
  · rename_i xs
    obtain ⟨u, rfl, o1⟩ := isds1 o
    cases o1 with
    | lst h1 r1 =>
      refine ⟨_, _, rfl, SqL.of (rel.sub _ _ h1), P.now rel hf fun F2 H2 x1 x2 _ => ⟨fun i d e => ?_, ⟨_, SqL.of (x2 _ _ (x1 _ _ h1)), by rw [enumD_len, r1.length]; exact Nat.le_refl _⟩⟩⟩
      have g1 : SqL X.K H2 _ _ := SqL.of (x2 _ _ (x1 _ _ h1))
      obtain ⟨y, ey, rfl⟩ := enumD_get _ _ _ _ e
      obtain ⟨v, e1, q1⟩ := r1.get ey
      refine ⟨⟨_, v, g1, e1⟩, fun z H3 hy => ?_⟩
      obtain ⟨T, v', rfl, nT, rfl, f1⟩ := hy
      have ev := f1 _ g1
      rw [e1] at ev; cases ev
      have ex : Ex F2 (upd F2 T (.tup [.int (i : Nat), v])) := Ex.nw (x2.free nT)
      refine ⟨_, .inr ⟨T, _, nT, rfl, rfl⟩, .tup upd_same (.cons ?_ (.cons (q1.mono (x1.tr ex)) .nil))⟩
      rw [Nat.zero_add]; exact .int _
  · exact hf.elim

/-! ### for -/
def wFor (g : TgW) (body : SW) : List D → SW
  | [], δ, b, R => R (.nx δ) b
  | d :: ds, δ, b, R => g d δ fun δ1 => body δ1 b fun o b' => match o with
    | .nx δ' => wFor g body ds δ' b' R
    | .ct δ' => wFor g body ds δ' b' R
    | .bk δ' => R (.nx δ') b'
    | .rt d => R (.rt d) b'
    | .er e => R (.er e) b'
def sfor (f : Env → Wp (List D)) (g : TgW) (body : SW) : SW := slift f fun ds => wFor g body ds
theorem sx_for {body : List Stmt} {f : Env → Wp (List D)} {g : TgW} {fb : SW} (G : Cxt X S W k) (hi : IX X S W false tg iter f) (ht : GX X S is tg g) (hb : SSX X S W body fb) (hs : ∀ x, foldedSetIterable iter X.env x = pure x := by intro _; rfl) :
    SX X S W (.For tg iter body [] pos) (sfor f g fb) := by
  obtain ⟨wi, p, q⟩ := hi
  obtain ⟨tg', p1, q1⟩ := ht
  obtain ⟨tb, p2, q2⟩ := hb
  refine ⟨_, ps_for G.pass G.calm p p1 p2 hs, ds_lift (Ok := ItOk S false) (tk := fun J D' σ H1 => ∃ W : Nat → Nat → Sl → Hp → Prop, (∃ m, W 0 m σ H1) ∧ ∀ i m σ H, W i m σ H →
    (J.stop i H ∧ D'.nx σ H) ∨ (J.go i H ∧ ∃ N : Sl → Hp → Prop, (∀ σ' H', N σ' H' → ∃ m', m' < m ∧ W (i + 1) m' σ' H') ∧ ∀ x H', J.yld i H x H' → tg' x σ H' fun σ2 H2 => tb { D' with nx := N, ct := N, bk := D'.nx } σ2 H2)) q fun H0 δ σ F1 H1 F H b1 b R D' J ds r1 rel o hf P => ?_⟩
  refine ⟨fun i m σ' H' => m + i = ds.length ∧ ∃ δ' F' b', Rel S H0 δ' σ' F' H' b' ∧ Ex F F' ∧ wFor g fb (ds.drop i) δ' b' R, ⟨ds.length, rfl, δ, F, b, rel, Ex.rfl', hf⟩, ?_⟩
  rintro i m σ' H' ⟨hm, δ', F', b', rel', ex, hw⟩
  have it := o F' H' ex rel'.sub (fun z => by cases z)
  by_cases hi : i < ds.length
  · obtain ⟨d, hd⟩ : ∃ d, ds[i]? = some d := ⟨ds[i], by simp [hi]⟩
    have hdr : ds.drop i = d :: ds.drop (i + 1) := by
      rw [List.drop_eq_getElem_cons hi]
      congr 1
      rw [List.getElem?_eq_getElem hi] at hd
      exact Option.some.inj hd
    rw [hdr] at hw
    obtain ⟨go, yl⟩ := it.1 i d hd
    refine .inr ⟨go, fun σ2 H2 => ∃ m', m' < m ∧ (m' + (i + 1) = ds.length ∧ ∃ δ' F' b', Rel S H0 δ' σ2 F' H2 b' ∧ Ex F F' ∧ wFor g fb (ds.drop (i + 1)) δ' b' R), fun σ2 H2 n => n, fun x H3 hy => ?_⟩
    obtain ⟨F3, hF, hx⟩ := yl x H3 hy
    have r3 : Rel S H0 δ' σ' F3 H3 b' ∧ Ex F' F3 := by
      rcases hF with ⟨rfl, rfl⟩ | ⟨p, o, np, rfl, rfl⟩
      · exact ⟨rel', Ex.rfl'⟩
      · exact ⟨rel'.new np, Ex.nw (rel'.sub.free np)⟩
    refine q1 H0 δ' σ' F3 H3 b' x d _ _ r3.1 hx hw fun δ2 σ2 k2 rel2 _ => ?_
    have ex3 := ex.tr r3.2
    refine q2 H0 δ2 σ2 F3 H3 b' _ _ rel2 k2 ⟨fun δ4 b4 w4 σ4 F4 H4 rel4 x4 => ⟨m - 1, by omega, by omega, δ4, F4, b4, rel4, ex3.tr x4, w4⟩, fun d b4 w4 v δ4 σ4 F4 H4 rel4 x4 hv => P.rt d b4 w4 v δ4 σ4 F4 H4 rel4 (ex3.tr x4) hv,
      fun δ4 b4 w4 σ4 F4 H4 rel4 x4 => P.nx δ4 b4 w4 σ4 F4 H4 rel4 (ex3.tr x4), fun δ4 b4 w4 σ4 F4 H4 rel4 x4 => ⟨m - 1, by omega, by omega, δ4, F4, b4, rel4, ex3.tr x4, w4⟩, fun e b4 w4 δ4 σ4 F4 H4 rel4 x4 => P.er e b4 w4 δ4 σ4 F4 H4 rel4 (ex3.tr x4)⟩
  · have hi2 : i = ds.length := by omega
    subst hi2
    rw [List.drop_length] at hw
    exact .inl ⟨it.2, P.nx δ' b' hw σ' F' H' rel' ex⟩
/-! ### while -/
def swhile (c : Env → Wp Bool) (body : SW) : SW := fun δ b R => ∃ I : Nat → Env → Nat → Prop, (∃ m, I m δ b) ∧ ∀ m δ b, I m δ b → c δ b fun r b1 => match r with
  | .ok true => body δ b1 fun o b2 => match o with
    | .nx δ' => ∃ m', m' < m ∧ I m' δ' b2
    | .ct δ' => ∃ m', m' < m ∧ I m' δ' b2
    | .bk δ' => R (.nx δ') b2
    | .rt d => R (.rt d) b2
    | .er e => R (.er e) b2
  | .ok false => R (.nx δ) b1
  | .error e => R (.er e) b1
theorem sx_while {c : Expr} {body : List Stmt} {f : Env → Wp Bool} {fb : SW} (G : Cxt X S W k) (hc : BX X S W c f) (hb : SSX X S W body fb) : SX X S W (.While c body [] pos) (swhile f fb) := by
  obtain ⟨tc, p, q⟩ := hc
  obtain ⟨tb, p2, q2⟩ := hb
  refine ⟨_, ps_while G.pass p p2, fun H0 δ σ F H b R D' rel hf P => ?_⟩
  obtain ⟨I, ⟨m0, hI⟩, step⟩ := hf
  refine ⟨fun m σ' H' => ∃ δ' F' b', Rel S H0 δ' σ' F' H' b' ∧ Ex F F' ∧ I m δ' b', ⟨m0, δ, F, b, rel, Ex.rfl', hI⟩, ?_⟩
  rintro m σ' H' ⟨δ', F', b', rel', ex, hI'⟩
  refine q H0 δ' σ' F' H' b' _ _ rel' (step m δ' b' hI') ⟨fun x b1 r y F1 H1 rel1 x1 f1 o => ?_, fun e b1 r F1 H1 rel1 x1 f1 => P.er e b1 r δ' σ' F1 H1 rel1 (ex.tr x1)⟩
  cases o
  cases x with
  | false => exact P.nx δ' b1 r σ' F1 H1 rel1 (ex.tr x1)
  | true =>
    show ∃ N : Sl → Hp → Prop, _
    have ex1 := ex.tr x1
    refine ⟨fun σ2 H2 => ∃ m', m' < m ∧ ∃ δ' F' b', Rel S H0 δ' σ2 F' H2 b' ∧ Ex F F' ∧ I m' δ' b', fun σ2 H2 n => n, ?_⟩
    refine q2 H0 δ' σ' F1 H1 b1 _ _ rel1 r ⟨fun δ4 b4 w4 σ4 F4 H4 rel4 x4 => ?_, fun d b4 w4 v δ4 σ4 F4 H4 rel4 x4 hv => P.rt d b4 w4 v δ4 σ4 F4 H4 rel4 (ex1.tr x4) hv,
      fun δ4 b4 w4 σ4 F4 H4 rel4 x4 => P.nx δ4 b4 w4 σ4 F4 H4 rel4 (ex1.tr x4), fun δ4 b4 w4 σ4 F4 H4 rel4 x4 => ?_, fun e b4 w4 δ4 σ4 F4 H4 rel4 x4 => P.er e b4 w4 δ4 σ4 F4 H4 rel4 (ex1.tr x4)⟩
    · obtain ⟨m', lt, i4⟩ := w4
      exact ⟨m', lt, δ4, F4, b4, rel4, ex1.tr x4, i4⟩
    · obtain ⟨m', lt, i4⟩ := w4
      exact ⟨m', lt, δ4, F4, b4, rel4, ex1.tr x4, i4⟩

/-! ### list comprehensions -/
/-- the context of a comprehension's block -/
theorem Cxt.blk (G : Cxt X S W k) {s_ : Shared} {H_ : Hp} {scope : Scope} {cenv : PySem.Env} {fp : List Addr} : Cxt (X.blk s_ H_ scope cenv fp) S W0 k :=
  ⟨G.kS, G.calm, G.nd, G.room, G.gd, (fun u s2 h => by obtain ⟨_, _, _, _, _, _, _, _, _, _, _, _, _, _, _, _, w⟩ := h; exact w.elim), PassesOwn.never⟩
def wComp (g : TgW) (c : Env → Wp Bool) (e : Env → Wp D) : List D → Env → Nat → (List D → Nat → Prop) → Prop
  | [], _, b, R => R [] b
  | d :: ds, δ, b, R => g d δ fun δ1 => c δ1 b fun r b1 => match r with
    | .error _ => False
    | .ok false => wComp g c e ds δ b1 R
    | .ok true => e δ1 b1 fun r b2 => match r with
      | .error _ => False
      | .ok y => wComp g c e ds δ b2 fun ys b3 => R (y :: ys) b3
/-- a list that stands beside, changed -/
theorem Rel.bump {H0 : Ent} {δ : Env} {σ : Sl} {F H : Hp} {b : Nat} {p : Addr} {o : HO} (R : Rel S H0 δ σ F H b) (hf : F p = none) (h0 : H0.h p = none) (ns : S.on = true → p ≠ S.st)
    (no : ∀ (j : Nat) (c : Cell) (a : Addr), δ[j]? = some (some c) → c.isOwn = true → σ[j]? = some (some (.ref a)) → a ≠ p) : Rel S H0 δ σ F (upd H p o) b := by
  refine ⟨R.len, R.sub.over hf, R.fr.over h0, R.nw, ⟨R.sto.out, R.sto.nu, fun q => ?_, R.sto.some_⟩, fun j c e => ?_, R.sep⟩
  · obtain ⟨g, g1, g2, g3⟩ := R.sto.at_ q
    exact ⟨g, g1, g2, by rw [upd_ne (Ne.symm (ns q))]; exact g3⟩
  · obtain ⟨v, e3, k⟩ := R.cell j c e
    refine ⟨v, e3, k.go Ex.rfl' fun q a ea w' => ⟨w'.nf, fun u hu => ?_⟩⟩
    subst ea
    rw [upd_ne (no j c a e q e3)]; exact hu
end
end BB
set_option Elab.async false
set_option linter.all false
set_option maxRecDepth 100000
set_option autoImplicit false
set_option maxHeartbeats 2000000
/-! Bb5: list comprehensions, statements over lists of one's own, raise, try. -/
namespace BB
open PySem PySem.Spec PyProof.Rows L2

/-! ### readings that hang on f alone -/
def cn {α β : Type} (S : Sg) (W : WX) (Ok : Hp → Hp → Hp → β → α → Prop) (f : Env → Wp α) : Sl → Hp → (β → Hp → Prop) → Prop := fun σ H Q =>
  ∃ (H0 : Ent) (δ : Env) (F : Hp) (b : Nat) (R : Except Er α → Nat → Prop), Rel S H0 δ σ F H b ∧ f δ b R ∧ Post S W Ok H0 δ σ F H R Q
theorem dg_cn {α β : Type} {S : Sg} {W : WX} {Ok : Hp → Hp → Hp → β → α → Prop} {f : Env → Wp α} : DG S W Ok (cn S W Ok f) f := fun H0 δ σ F H b R Q rel hf P => ⟨H0, δ, F, b, R, rel, hf, P⟩
theorem cn_le {α β : Type} {S : Sg} {W : WX} {Ok : Hp → Hp → Hp → β → α → Prop} {f : Env → Wp α} {t : Sl → Hp → (β → Hp → Prop) → Prop} (h : DG S W Ok t f) {σ : Sl} {H : Hp} {Q : β → Hp → Prop} (c : cn S W Ok f σ H Q) : t σ H Q :=
  let ⟨H0, δ, F, b, R, rel, hf, P⟩ := c; h H0 δ σ F H b R Q rel hf P
def cng (S : Sg) (is : List Nat) (f : TgW) : TG := fun v σ H Q => ∃ (H0 : Ent) (δ : Env) (F : Hp) (b : Nat) (d : D) (K' : Env → Prop), Rel S H0 δ σ F H b ∧ IsD F v d ∧ f d δ K' ∧ ∀ δ' σ', K' δ' → Rel S H0 δ' σ' F H b → OutS is σ σ' → Q σ' H
section
variable {X : Cx} {S : Sg} {W : WX} {k : Nat} {is js : List Nat} {e a b tg iter elt : Expr} {es ifs : List Expr} {pos : Pos}
theorem EX.cn {f : Env → Wp D} (h : EX X S W e f) : PE X e (BB.cn S W OkV f) := let ⟨t, p, q⟩ := h; ⟨fun pins s σ H Q I c => p.run pins s σ H Q I (cn_le q c)⟩
theorem GX.cn {f : TgW} (h : GX X S is tg f) : PG X tg (cng S is f) := by
  obtain ⟨t, p, q⟩ := h
  refine ⟨fun pins s σ H v u Q I r c => p.run pins s σ H v u Q I r ?_⟩
  obtain ⟨H0, δ, F, b, d, K', rel, o, hf, kq⟩ := c
  exact q H0 δ σ F H b v d K' Q rel o hf kq
theorem dgt_cn {f : TgW} : DGt S is (cng S is f) f := fun H0 δ σ F H b v d K' Q rel o hf kq => ⟨H0, δ, F, b, d, K', rel, o, hf, kq⟩
/-- a clause's tests -/
def TX (X : Cx) (S : Sg) (W : WX) (ifs : List Expr) (f : Env → Wp Bool) : Prop := ∃ tt, PTs X ifs tt ∧ DG S W OkB tt f
theorem TX.cn {f : Env → Wp Bool} (h : TX X S W ifs f) : PTs X ifs (BB.cn S W OkB f) := let ⟨t, p, q⟩ := h; ⟨fun pins s σ H Q I c => p.run pins s σ H Q I (cn_le q c)⟩
def wyes : Env → Wp Bool := fun _ => wret true
theorem tx_nil : TX X S W [] wyes := ⟨_, pts_nil, fun H0 δ σ F H b R Q rel hf P => P.now rel hf rfl⟩
theorem tx_one {f : Env → Wp Bool} (h : BX X S W e f) : TX X S W [e] f := let ⟨t, p, q⟩ := h; ⟨t, pts_one p, q⟩

def wlc (f : Env → Wp (List D)) (vs : List Nat) (g : TgW) (c : Env → Wp Bool) (e : Env → Wp D) : Env → Wp (List D) := fun δ => wbind (f δ) fun ds b R => ds.length ≤ sizeLine ∧ wComp g c e ds (wipeE δ vs) b fun ys b' => R (.ok ys) b'
theorem wipe_wipe {σ : Sl} {vs : List Nat} : L2.wipe (L2.wipe σ vs) vs = L2.wipe σ vs := by
  refine List.ext_getElem? fun i => ?_
  rw [wipe_at, wipe_at, wipe_length]
  by_cases h : i ∈ vs ∧ i < σ.length
  · rw [if_pos h, if_pos h]
  · rw [if_neg h]
theorem dg_lc {wi : TI} {g : TG} {tt : TT} {te : TE} {vs : List Nat} {f : Env → Wp (List D)} {fg : TgW} {fc : Env → Wp Bool} {fe : Env → Wp D} (hi : DG S W (ItOk S true) wi f) (hg : DGt S is g fg) (ht : DG S W0 OkB tt fc) (he : DG S W0 OkV te fe) (hv : ∀ i ∈ is, i ∈ vs) :
    DG S W OkF (tLc wi g tt te vs) (wlc f vs fg fc fe) := by
  intro H0 δ σ F H b R Q rel hf P
  refine hi H0 δ σ F H b _ _ rel hf ⟨fun ds b1 r J F1 H1 rel1 x1 f1 it => ?_, P.er⟩
  obtain ⟨hz, hw⟩ := r
  intro Dl hD
  have d1 : F1 Dl = none := rel1.sub.free hD
  refine ⟨fun i m H2 => m + i = ds.length ∧ ∃ F2 b2 accV accD, Rel S H0 δ σ F2 H2 b2 ∧ Ex F1 F2 ∧ Go S F1 H1 F2 H2 ∧ F2 Dl = none ∧ H2 Dl = some (.lst accV) ∧ IsDs F2 accV accD ∧ accV.length ≤ i ∧
    wComp fg fc fe (ds.drop i) (wipeE δ vs) b2 (fun ys b3 => R (.ok (accD ++ ys)) b3), ⟨ds.length, rfl, F1, b1, [], [], rel1.tmp hD, Ex.rfl', Go.tmp hD, d1, upd_same, .nil, Nat.le_refl _, ?_⟩, ?_⟩
  · rw [List.drop_zero]; exact hw
  · rintro i m H2 ⟨hm, F2, b2, accV, accD, rel2, x2, g2, n2, hd2, ha, hl, hw⟩
    have it2 := it F2 H2 x2 rel2.sub fun _ => g2.fr
    by_cases hi : i < ds.length
    · obtain ⟨d, hd⟩ : ∃ d, ds[i]? = some d := ⟨ds[i], by simp [hi]⟩
      have hdr : ds.drop i = d :: ds.drop (i + 1) := by
        rw [List.drop_eq_getElem_cons hi]
        congr 1
        rw [List.getElem?_eq_getElem hi] at hd
        exact Option.some.inj hd
      rw [hdr] at hw
      obtain ⟨go, yl⟩ := it2.1 i d hd
      refine .inr ⟨go, fun H' => ∃ m', m' < m ∧ (m' + (i + 1) = ds.length ∧ ∃ F2 b2 accV accD, Rel S H0 δ σ F2 H' b2 ∧ Ex F1 F2 ∧ Go S F1 H1 F2 H' ∧ F2 Dl = none ∧ H' Dl = some (.lst accV) ∧ IsDs F2 accV accD ∧ accV.length ≤ i + 1 ∧
        wComp fg fc fe (ds.drop (i + 1)) (wipeE δ vs) b2 (fun ys b3 => R (.ok (accD ++ ys)) b3)), fun H' n => n, fun x H3 hy => ?_⟩
      obtain ⟨F3, hF, hx⟩ := yl x H3 hy
      have r3 : Rel S H0 δ σ F3 H3 b2 ∧ Ex F2 F3 ∧ Go S F2 H2 F3 H3 ∧ F3 Dl = none ∧ H3 Dl = some (.lst accV) := by
        rcases hF with ⟨rfl, rfl⟩ | ⟨p, o, np, rfl, rfl⟩
        · exact ⟨rel2, Ex.rfl', Go.rfl', n2, hd2⟩
        · have ne : Dl ≠ p := ne_of_none hd2 np
          exact ⟨rel2.new np, Ex.nw (rel2.sub.free np), Go.new np, by rw [upd_ne ne]; exact n2, by rw [upd_ne ne]; exact hd2⟩
      obtain ⟨rel3, x3, g3, n3, hd3⟩ := r3
      have g13 := g2.tr rel2.sto g3
      have hDst : S.on = true → Dl ≠ S.st := rel1.sto.here hD
      refine hg H0 (wipeE δ vs) (L2.wipe σ vs) F3 H3 b2 x d _ _ (rel3.wipe vs) hx hw fun δ4 σ4 k4 rel4 out => ⟨(out.wipe hv).trans wipe_wipe, ?_⟩
      -- back to the names around
      have back : ∀ {F5 H5 : Hp} {b5 : Nat}, StOk S F5 H5 b5 → Ex F3 F5 → Ex F5 H5 → Go S F3 H3 F5 H5 → Rel S H0 δ σ F5 H5 b5 ∧ F5 Dl = none ∧ H5 Dl = some (.lst accV) := fun {F5 H5 b5} so x5 s5 g5 => by
        refine ⟨rel3.go x5 s5 g5.fr so g5.nw, ?_, g5.fr Dl _ hd3 hDst⟩
        cases q : F5 Dl with
        | none => rfl
        | some o =>
          rcases g5.nw Dl o q with z | z
          · rw [n3] at z; cases z
          · rw [hd3] at z; cases z
      refine ht H0 δ4 σ4 F3 H3 b2 _ _ rel4 k4 ⟨fun c b5 w5 y F5 H5 rel5 x5 g5 o5 => ?_, fun e b5 w5 F5 H5 rel5 x5 g5 => w5⟩
      cases o5
      cases c with
      | false =>
        obtain ⟨q1, q2, q3⟩ := back rel5.sto x5 rel5.sub g5
        exact ⟨m - 1, by omega, by omega, F5, b5, accV, accD, q1, x2.tr (x3.tr x5), g13.tr rel3.sto g5, q2, q3, ha.mono (x3.tr x5), by omega, w5⟩
      | true =>
        refine he H0 δ4 σ4 F5 H5 b5 _ _ rel5 w5 ⟨fun y b6 w6 v F6 H6 rel6 x6 g6 o6 => ?_, fun e b6 w6 F6 H6 rel6 x6 g6 => w6⟩
        have g56 := g5.tr rel5.sto g6
        obtain ⟨q1, q2, q3⟩ := back rel6.sto (x5.tr x6) rel6.sub g56
        have hz2 : accV.length < sizeLine := by omega
        refine ⟨accV, q3, hz2, m - 1, by omega, by omega, F6, b6, accV ++ [v], accD ++ [y], ?_, x2.tr (x3.tr (x5.tr x6)), ?_, q2, upd_same, (ha.mono (x3.tr (x5.tr x6))).append (.cons o6 .nil), by rw [List.length_append]; simp; omega, ?_⟩
        · -- the list under way is nobody's yet
          have nown : ∀ (j : Nat) (c : Cell) (a : Addr), δ[j]? = some (some c) → c.isOwn = true → σ[j]? = some (some (.ref a)) → a ≠ Dl := fun j c a e1 e2 e3 => by
            obtain ⟨_, u, hu⟩ := rel1.ownAt e1 e2 e3
            exact ne_of_none hu hD
          exact q1.bump q2 (rel1.fr.free rel1.sto hD) hDst nown
        · exact ⟨(g13.tr rel3.sto g56).fr.over hD, (g13.tr rel3.sto g56).nw⟩
        · have e : (fun ys b3 => R (.ok (accD ++ [y] ++ ys)) b3) = fun (ys : List D) b3 => R (.ok (accD ++ (y :: ys))) b3 := by
            funext ys b3
            rw [List.append_assoc]; rfl
          rw [e]
          exact w6
    · have hi2 : i = ds.length := by omega
      subst hi2
      rw [List.drop_length] at hw
      refine .inl ⟨it2.2, ?_⟩
      have hw' : R (.ok (accD ++ [])) b2 := hw
      rw [List.append_nil] at hw'
      exact P.ok accD b2 hw' _ F2 H2 rel2 (x1.tr x2) (f1.tr rel1.sto g2) ⟨Dl, accV, rfl, f1.fr.free rel1.sto hD, hd2, n2, ha⟩
end
end BB
set_option Elab.async false
set_option linter.all false
set_option maxRecDepth 100000
set_option autoImplicit false
set_option maxHeartbeats 2000000
/-! Bb6: comprehensions as values, lists of one's own, raise, a def's promise by its body's data. -/
namespace BB
open PySem PySem.Spec PyProof.Rows L2
section
variable {X : Cx} {S : Sg} {W : WX} {k : Nat} {is js vs : List Nat} {e a b tg iter elt : Expr} {es ifs : List Expr} {pos spos : Pos} {scope : Scope} {own : List (Str × Nat)} {f : Env → Wp (List D)} {fg : TgW} {fc : Env → Wp Bool} {fe : Env → Wp D}
theorem ef_lc (G : Cxt X S W k) (hvs : own.map (·.2) = vs) (hi : IX X S W true tg iter f) (ok : BlkOk X.N X.env.scope scope own)
    (hg : ∀ (s : Shared) (H : Hp) (C : Addr) (cl : List (Str × Addr)) (fp : List Addr), GX (X.blk s H scope (compEnvC scope cl C X.env) fp) S is tg fg)
    (ht : ∀ (s : Shared) (H : Hp) (C : Addr) (cl : List (Str × Addr)) (fp : List Addr), TX (X.blk s H scope (compEnvC scope cl C X.env) fp) S W0 ifs fc)
    (he : ∀ (s : Shared) (H : Hp) (C : Addr) (cl : List (Str × Addr)) (fp : List Addr), EX (X.blk s H scope (compEnvC scope cl C X.env) fp) S W0 elt fe)
    (hv : ∀ i ∈ is, i ∈ vs := by decide) (hs : ∀ x, foldedSetIterable iter X.env x = pure x := by intro _; rfl) : EF X S W (.ListComp elt [⟨tg, iter, ifs, 0⟩] scope pos) (wlc f vs fg fc fe) := by
  obtain ⟨wi, p, q⟩ := hi
  subst hvs
  exact ⟨_, pe_lc G.calm G.nd p ok (fun s H C cl fp => (hg s H C cl fp).cn) (fun s H C cl fp => (ht s H C cl fp).cn) (fun s H C cl fp => (he s H C cl fp).cn) hs, dg_lc q dgt_cn dg_cn dg_cn hv⟩
/-- name = [.. for ..] on one line -/
theorem sx_asgLcF {i : Nat} {y : Str} {py : Pos} (G : Cxt X S W k) (hvs : own.map (·.2) = vs) (hy : X.N[i]? = some y) (hyl : X.env.scope.names.lookup y = some .local)
    (hsw : swapsWith (.ListComp elt [⟨tg, iter, ifs, 0⟩] scope pos) (some (.Name y py)) spos.line X.env = pure true) (hi : IX X S W true tg iter f) (ok : BlkOk X.N X.env.scope scope own)
    (hg : ∀ (s : Shared) (H : Hp) (C : Addr) (cl : List (Str × Addr)) (fp : List Addr), GX (X.blk s H scope (compEnvC scope cl C X.env) fp) S is tg fg)
    (ht : ∀ (s : Shared) (H : Hp) (C : Addr) (cl : List (Str × Addr)) (fp : List Addr), TX (X.blk s H scope (compEnvC scope cl C X.env) fp) S W0 ifs fc)
    (he : ∀ (s : Shared) (H : Hp) (C : Addr) (cl : List (Str × Addr)) (fp : List Addr), EX (X.blk s H scope (compEnvC scope cl C X.env) fp) S W0 elt fe)
    (hv : ∀ i ∈ is, i ∈ vs := by decide) (hs : ∀ x, foldedSetIterable iter X.env x = pure x := by intro _; rfl) : SX X S W (.Assign [.Name y py] (.ListComp elt [⟨tg, iter, ifs, 0⟩] scope pos) spos) (sasgF i (wlc f vs fg fc fe)) := by
  obtain ⟨wi, p, q⟩ := hi
  subst hvs
  refine ⟨_, ps_setLc G.calm G.nd hy hyl hsw p ok (fun s H C cl fp => (hg s H C cl fp).cn) (fun s H C cl fp => (ht s H C cl fp).cn) (fun s H C cl fp => (he s H C cl fp).cn) hs, ?_⟩
  refine ds_lift (tk := fun y D' σ H => D'.nx (σ.set i (some y)) H) (dg_lc q dgt_cn dg_cn dg_cn hv) fun H0 δ σ F1 H1 F H b1 b R D' y x r1 rel o hf P => ?_
  obtain ⟨n, vs, rfl, hn, hp, hF, hd⟩ := o
  exact P.nx _ b hf _ F H (r1.putOwn rel i hn ⟨n, vs, rfl, r1.ownNew rel hn hF, hp, hd⟩ rfl) Ex.rfl'
theorem sx_asgLc {i : Nat} {y : Str} {py : Pos} (G : Cxt X S W k) (hvs : own.map (·.2) = vs) (hy : X.N[i]? = some y) (hyl : X.env.scope.names.lookup y = some .local)
    (hsw : swapsWith (.ListComp elt [⟨tg, iter, ifs, 0⟩] scope pos) (some (.Name y py)) spos.line X.env = pure true) (hi : IX X S W true tg iter f) (ok : BlkOk X.N X.env.scope scope own)
    (hg : ∀ (s : Shared) (H : Hp) (C : Addr) (cl : List (Str × Addr)) (fp : List Addr), GX (X.blk s H scope (compEnvC scope cl C X.env) fp) S is tg fg)
    (ht : ∀ (s : Shared) (H : Hp) (C : Addr) (cl : List (Str × Addr)) (fp : List Addr), TX (X.blk s H scope (compEnvC scope cl C X.env) fp) S W0 ifs fc)
    (he : ∀ (s : Shared) (H : Hp) (C : Addr) (cl : List (Str × Addr)) (fp : List Addr), EX (X.blk s H scope (compEnvC scope cl C X.env) fp) S W0 elt fe)
    (hv : ∀ i ∈ is, i ∈ vs := by decide) (hs : ∀ x, foldedSetIterable iter X.env x = pure x := by intro _; rfl) : SX X S W (.Assign [.Name y py] (.ListComp elt [⟨tg, iter, ifs, 0⟩] scope pos) spos) (sasg i (wlst (wlc f vs fg fc fe))) := by
  obtain ⟨wi, p, q⟩ := hi
  subst hvs
  refine ⟨_, ps_setLc G.calm G.nd hy hyl hsw p ok (fun s H C cl fp => (hg s H C cl fp).cn) (fun s H C cl fp => (ht s H C cl fp).cn) (fun s H C cl fp => (he s H C cl fp).cn) hs, ?_⟩
  exact ds_lift (tk := fun y D' σ H => D'.nx (σ.set i (some y)) H) (dg_FV (dg_lc q dgt_cn dg_cn dg_cn hv)) fun H0 δ σ F1 H1 F H b1 b R D' y x r1 rel o hf P => P.nx _ b hf _ F H (rel.put i o) Ex.rfl'
end

section
variable {X : Cx} {S : Sg} {W : WX} {k : Nat} {is : List Nat} {e a b tg : Expr} {es : List Expr} {pos : Pos}
/-! ### lists of one's own -/
/-- x.append(e) -/
def sapp (i : Nat) (f : Env → Wp D) : SW := fun δ b R => match δ[i]? with
  | some (some (.own ds)) => f δ b fun r b' => match r with
    | .ok d => ds.length < sizeLine ∧ R (.nx (δ.set i (some (.own (ds ++ [d]))))) b'
    | .error e => R (.er e) b'
  | _ => False
theorem sx_app {i : Nat} {o : Expr} {apos cpos : Pos} {f : Env → Wp D} (ho : PE X o (tVar i)) (h : EX X S W a f)
    (hbase : attributeBase o "append" X.env (eval o X.env) = eval o X.env := by rfl)
    (hfew : ((backTo cpos (starEach [a] X.env)).all (fun x => !x.1) && (backToKw cpos (keywordEach [] X.env)).all (fun x => x.1.isSome) && decide ([a].length + ([] : List Keyword).length + (if ([] : List Keyword).isEmpty then 0 else 1) < 30)) = true := by rfl)
    (hline : (apos.endLine == cpos.line) = true := by rfl) (hs : starEach [a] X.env = (false, eval a X.env) :: starEach [] X.env := by rfl) (hplain : (backTo cpos (starEach [] X.env)).any (·.1) = false := by rfl)
    (hsw : swapsWith (.Call (.Attribute o "append" apos) [a] [] cpos) none pos.line X.env = pure false := by rfl) :
    SX X S W (.Expr (.Call (.Attribute o "append" apos) [a] [] cpos) pos) (sapp i f) := by
  obtain ⟨t, p, q⟩ := h
  refine ⟨_, ps_expr (pe_bm PySem.F.plainAttrs_list PySem.F.slot_list_append PySem.F.type_list_append mt_append ho (pa_cons p pa_nil hs) hbase hfew hline hs hplain) hsw, fun H0 δ σ F H b R D' rel hf P => ?_⟩
  unfold sapp at hf
  split at hf
  · rename_i ds0 hd0
    obtain ⟨v, e1, o1⟩ := rel.cell i _ hd0
    obtain ⟨n, vs, rfl, w, hn, hq⟩ := o1
    refine ⟨_, e1, .inl ⟨rfl, _, SqL.of hn⟩, ?_⟩
    refine q H0 δ σ F H b _ _ rel hf ⟨fun d b' r y F' H' q2 ex g o2 => ?_, fun e b' r F' H' q2 x g' => P.er e b' r δ σ F' H' q2 x⟩
    obtain ⟨z, r'⟩ := r
    have hn' := g.fr n _ hn w.ns
    obtain ⟨v2, e2, o3⟩ := q2.cell i _ hd0
    rw [e1] at e2
    cases e2
    obtain ⟨n2, vs2, en, w2, hn2, hq2⟩ := o3
    cases en
    rw [hn'] at hn2
    cases hn2
    refine ⟨n, vs, y, rfl, rfl, hn', by rw [hq2.length]; exact z, ?_⟩
    exact P.nx _ b' r' σ F' _ (q2.poke hd0 rfl e1 rfl ⟨n, vs ++ [y], rfl, w2, upd_same, hq2.append (.cons o2 .nil)⟩) ex
  · exact hf.elim
/-- x.extend(e) -/
def sext (i : Nat) (f : Env → Wp D) : SW := fun δ b R => match δ[i]? with
  | some (some (.own ds)) => f δ b fun r b' => match r with
    | .ok (.list es) => ds.length + es.length ≤ sizeLine ∧ R (.nx (δ.set i (some (.own (ds ++ es))))) b'
    | .ok _ => False
    | .error e => R (.er e) b'
  | _ => False
theorem sx_ext {i : Nat} {o : Expr} {apos cpos : Pos} {f : Env → Wp D} (ho : PE X o (tVar i)) (h : EX X S W a f)
    (hbase : attributeBase o "extend" X.env (eval o X.env) = eval o X.env := by rfl)
    (hfew : ((backTo cpos (starEach [a] X.env)).all (fun x => !x.1) && (backToKw cpos (keywordEach [] X.env)).all (fun x => x.1.isSome) && decide ([a].length + ([] : List Keyword).length + (if ([] : List Keyword).isEmpty then 0 else 1) < 30)) = true := by rfl)
    (hline : (apos.endLine == cpos.line) = true := by rfl) (hs : starEach [a] X.env = (false, eval a X.env) :: starEach [] X.env := by rfl) (hplain : (backTo cpos (starEach [] X.env)).any (·.1) = false := by rfl)
    (hsw : swapsWith (.Call (.Attribute o "extend" apos) [a] [] cpos) none pos.line X.env = pure false := by rfl) :
    SX X S W (.Expr (.Call (.Attribute o "extend" apos) [a] [] cpos) pos) (sext i f) := by
  obtain ⟨t, p, q⟩ := h
  refine ⟨_, ps_expr (pe_bm PySem.F.plainAttrs_list PySem.F.slot_list_extend PySem.F.type_list_extend mt_extend ho (pa_cons p pa_nil hs) hbase hfew hline hs hplain) hsw, fun H0 δ σ F H b R D' rel hf P => ?_⟩
  unfold sext at hf
  split at hf
  · rename_i ds0 hd0
    obtain ⟨v, e1, o1⟩ := rel.cell i _ hd0
    obtain ⟨n, vs, rfl, w, hn, hq⟩ := o1
    refine ⟨_, e1, .inl ⟨rfl, _, SqL.of hn⟩, ?_⟩
    refine q H0 δ σ F H b _ _ rel hf ⟨fun d b' r y F' H' q2 ex g o2 => ?_, fun e b' r F' H' q2 x g' => P.er e b' r δ σ F' H' q2 x⟩
    cases d with
    | list es =>
      obtain ⟨z, r⟩ := r
      have hn' := g.fr n _ hn w.ns
      obtain ⟨v2, e2, o3⟩ := q2.cell i _ hd0
      rw [e1] at e2
      cases e2
      obtain ⟨n2, vs2, en, w2, hn2, hq2⟩ := o3
      cases en
      rw [hn'] at hn2
      cases hn2
      cases o2 with
      | lst h1 h2 =>
        refine ⟨n, _, vs, _, rfl, rfl, hn', q2.sub _ _ h1, by rw [hq2.length, h2.length]; exact z, ?_⟩
        exact P.nx _ b' r σ F' _ (q2.poke hd0 rfl e1 rfl ⟨n, _, rfl, w2, upd_same, hq2.append h2⟩) ex
    | _ => exact r.elim
  · exact hf.elim
/-- x[j] = e -/
def sset (i : Nat) (fj f : Env → Wp D) : SW := fun δ b R => match δ[i]? with
  | some (some (.own ds)) => f δ b fun r b' => match r with
    | .error e => R (.er e) b'
    | .ok d => fj δ b' fun r b'' => match r with
      | .error e => R (.er e) b''
      | .ok (.int j) => ∃ m, ixN ds.length j = some m ∧ R (.nx (δ.set i (some (.own (ds.set m d))))) b''
      | .ok _ => False
  | _ => False
theorem IsDs.setI {F : Hp} {vs : List V} {ds : List D} {v : V} {d : D} (h : IsDs F vs ds) (r : IsD F v d) (m : Nat) : IsDs F (vs.set m v) (ds.set m d) := IsDs.set r m h
theorem sx_set {i : Nat} {o ix : Expr} {sp : Pos} {fj f : Env → Wp D} (ho : PE X o (tVar i)) (hj : EX X S W ix fj) (h : EX X S W e f)
    (ha : ∀ v, assign (.Subscript o ix sp) X.env v = (do
      let ov ← holding [v] (eval o X.env)
      let iv ← holding [v, ov] (eval ix X.env)
      standAt sp
      holding [v, ov, iv] (setItem ov iv v)
      release [v, ov, iv] []) := by intro _; rfl) (hs : swapsWithSole [.Subscript o ix sp] e pos.line X.env = pure false := by rfl) (hw : swappedStores [.Subscript o ix sp] e X.env = pure none := by rfl)
    (h1 : (assignEach [.Subscript o ix sp] X.env).map (·.2) = [assign (.Subscript o ix sp) X.env] := by rfl) : SX X S W (.Assign [.Subscript o ix sp] e pos) (sset i fj f) := by
  obtain ⟨t, p, q⟩ := h
  obtain ⟨tj, pj, qj⟩ := hj
  refine ⟨_, ps_asg p (pg_sub ho pj set_list ha) hs hw h1, fun H0 δ σ F H b R D' rel hf P => ?_⟩
  unfold sset at hf
  split at hf
  · rename_i ds hd
    obtain ⟨v, e1, o1⟩ := rel.cell i _ hd
    obtain ⟨n, vs, rfl, w, hn, hq⟩ := o1
    refine q H0 δ σ F H b _ _ rel hf ⟨fun d b' r y F' H' q2 ex g o2 => ?_, fun e b' r F' H' q2 x g' => P.er e b' r δ σ F' H' q2 x⟩
    refine ⟨_, e1, ?_⟩
    refine qj H0 δ σ F' H' b' _ _ q2 r ⟨fun dj b2 r2 vj F2 H2 q3 x3 g3 o3 => ?_, fun e b2 r2 F2 H2 q3 x3 g3 => P.er e b2 r2 δ σ F2 H2 q3 (ex.tr x3)⟩
    cases dj with
    | int j =>
      obtain ⟨m, hm, r2⟩ := r2
      obtain ⟨v2, e2, o4⟩ := q3.cell i _ hd
      rw [e1] at e2
      cases e2
      obtain ⟨n2, vs2, en, w2, hn2, hq2⟩ := o4
      cases en
      cases o3
      refine ⟨n, vs2, j, m, rfl, rfl, hn2, by rw [hq2.length]; exact hm, ?_⟩
      exact P.nx _ b2 r2 σ F2 _ (q3.poke hd rfl e1 rfl ⟨n, _, rfl, w2, upd_same, hq2.setI (o2.mono x3) m⟩) (ex.tr x3)
    | _ => exact r2.elim
  · exact hf.elim

/-! ### raise -/
/-- an error's class, without own __init__ -/
structure ErrC (K : PySem.W.Frag) (mg : Str → Option Value) (x : Str) (C : Addr) : Prop where
  gC : mg x = some (.ref C)
  ex : PySem.W.excIn K C [.type "ValueError", .type "Exception", .type "BaseException", .type "object"] "ValueError.__new__" = true
  kp : PySem.W.keepIn K (.ref C) = true
  sub : PySem.W.subIn K (.ref C) (.type "BaseException") = some true
  ty : PySem.W.typeIn K (.ref C) = some (.type "type")
def srs (e : Er) : SW := fun _ b R => R (.er e) b
theorem sx_raise {er : Er} {C : Addr} {x m : Str} {j : Nat} {p p2 rpos : Pos} (G : Cxt X S W k) (T : ErrC X.K X.mg x C) (hc : S.cls er = .ref C) (hg : Gl X x := by rfl) (hdb : (x == ("__debug__" : Str)) = false := by decide) :
    SX X S W (.Raise (some (.Call (.Name x p) [.Constant (.str m) j p2] [] pos)) none rpos) (srs er) :=
  ⟨_, L2N.ps_raise G.calm G.tk (L2N.pmk_own PySem.F.excBase_ValueError T.ex T.gC T.kp (raises_own T.sub T.ty) hg hdb), fun H0 δ σ F H b R D' rel hf P => by
    have z := P.er er b hf δ σ F H rel Ex.rfl'
    rw [hc] at z
    exact z⟩
end

/-! ### a def's promise, by its body over data -/
/-- the parameters' values at the entry -/
def startE (n : Nat) (cs : List Cell) : Env := cs.map some ++ List.replicate (n - cs.length) none
/-- the body run -/
def runB (n : Nat) (f : SW) (cs : List Cell) : Wp D := fun b R => f (startE n cs) b fun o b' => match o with
  | .nx _ => R (.ok .none) b'
  | .rt d => R (.ok d) b'
  | .er e => R (.error e) b'
  | .bk _ => False
  | .ct _ => False
theorem argsOk_get {S : Sg} {F : Hp} : ∀ {vs : List V} {cs : List Cell} {i : Nat} {c : Cell}, ArgsOk S F vs cs → cs[i]? = some c → ∃ v, vs[i]? = some v ∧ ArgOk S F v c
  | _, _, _, _, .nil, e => by simp at e
  | _, _, 0, _, .cons a _, e => by simp at e; subst e; exact ⟨_, rfl, a⟩
  | _, _, i + 1, _, .cons _ b, e => by
    obtain ⟨v, h1, h2⟩ := argsOk_get (i := i) b (by simpa using e)
    exact ⟨v, by simpa using h1, h2⟩
theorem ArgOk.noOwn {S : Sg} {F : Hp} {v : V} {c : Cell} (h : ArgOk S F v c) : c.isOwn = false := by
  cases c with
  | val d => rfl
  | st => rfl
  | own ds => exact h.elim
  | dk ds => exact h.elim
  | dt ds => exact h.elim
  | lk a ds => exact h.elim
  | lt a ds => exact h.elim
  | ro ns => rfl
theorem ArgOk.cell {S : Sg} {H0 F H : Hp} {v : V} {c : Cell} (h : ArgOk S F v c) : CellOk S H0 F H v c := by
  cases c with
  | val d => exact h
  | st => exact h
  | own ds => exact h.elim
  | dk ds => exact h.elim
  | dt ds => exact h.elim
  | lk a ds => exact h.elim
  | lt a ds => exact h.elim
  | ro ns => exact h
theorem rel_start {S : Sg} {N : List Str} {F H : Hp} {b : Nat} {vs : List V} {cs : List Cell} (x : Ex F H) (so : StOk S F H b) (ha : ArgsOk S F vs cs) : Rel S ⟨F, H⟩ (startE N.length cs) (L2.start N vs) F H b := by
  have hl : vs.length = cs.length := Paired.length ha
  have at_ : ∀ (i : Nat) (c : Cell), (startE N.length cs)[i]? = some (some c) → cs[i]? = some c := fun i c e => by
    unfold startE at e
    by_cases h : i < cs.length
    · rw [List.getElem?_append_left (by rw [List.length_map]; exact h), List.getElem?_map] at e
      rw [List.getElem?_eq_getElem h] at e ⊢
      exact Option.some.inj e
    · rw [List.getElem?_append_right (by rw [List.length_map]; omega), List.getElem?_replicate] at e
      split at e <;> cases e
  refine ⟨by unfold L2.start startE; simp [hl], x, Fr.rfl', fun a o e => .inl e, so, fun i c e => ?_, fun i j c c' n e e' o o' => ?_⟩
  · obtain ⟨v, e1, o⟩ := argsOk_get ha (at_ i c e)
    refine ⟨v, ?_, o.cell⟩
    unfold L2.start
    rw [List.getElem?_append_left (by rw [List.length_map]; exact (List.getElem?_eq_some_iff.mp e1).1), List.getElem?_map, e1]
    rfl
  · obtain ⟨v, e1, q⟩ := argsOk_get ha (at_ i c e)
    rw [q.noOwn] at o; cases o
section
variable {P : Program} {w : World} {K : PySem.W.Frag} {mg : Str → Option Value} {base : Heap} {T : Er → Value}
/-- the context of a def's body -/
abbrev bx (P : Program) (w : World) (K : PySem.W.Frag) (mg : Str → Option Value) (base : Heap) (N : List Str) (x : Str) (st : Stmt) (f : Addr) (cdv : Value) (A : Around) (outer : List PySem.Env) (s : Shared) (H : Hp) (E : XK) : Cx := cxOf (L2N.CX P w) P w K mg base N x (defScope st) f cdv A outer s H E
abbrev bw (E : XK) : WX := fun cls d _ H => E cls d H
theorem df_of {x : Str} {st : Stmt} {f : Addr} {fd : FuncData} {N ps : List Str} {k : Nat} {spec : Spec} {fb : SW} (F : Fun K x x st f fd) (Sc : FnScope N ps (defScope st)) (hm : mg x = some (.ref f)) (bd : Binds K fd ps [])
    (body : ∀ (S : Sg) (cdv : Value) (A : Around) (outer : List PySem.Env) (s : Shared) (H : Hp) (E : XK), S.cls = T → Cxt (bx P w K mg base N x st f cdv A outer s H E) S (bw E) k → SSX (bx P w K mg base N x st f cdv A outer s H E) S (bw E) (defBody st) fb)
    (run : ∀ (cs : List Cell) (b : Nat) (R : Except Er D → Nat → Prop), spec cs b R → cs.length = ps.length ∧ runB N.length fb cs b R) : Df P w K mg base T (k + 1) x f fd ps spec := by
  refine ⟨fng_of F Sc (fun vs H Q E h => h.1) fun cdv A outer s H vs Q E room gd h => ?_, hm, F.kp, bd⟩
  obtain ⟨hl, S, F0, b, cs, R, hK, hT, ex, so, ha, hs, h1, h2⟩ := h
  subst hT
  obtain ⟨t, p, q⟩ := body S cdv A outer s H E rfl ⟨hK, rfl, Sc.nd, room, gd, L2N.takes_of rfl rfl rfl rfl, passes_of rfl⟩
  refine ⟨t, p, ?_⟩
  refine q ⟨F0, H⟩ (startE N.length cs) (L2.start N vs) F0 H b _ _ (rel_start ex so ha) (run cs b R hs).2 ⟨fun δ' b' r σ' F' H' rel x => ?_, fun d b' r v δ' σ' F' H' rel x hv => ?_, fun δ' b' r => r.elim, fun δ' b' r => r.elim, fun e b' r δ' σ' F' H' rel x => ?_⟩
  · exact h1 .none b' r .non F' H' rel.sto x rel.sub rel.fr rel.nw .non
  · exact h1 d b' r v F' H' rel.sto x rel.sub rel.fr rel.nw hv
  · exact h2 e b' r F' H' rel.sto x rel.sub rel.fr rel.nw
end
end BB
set_option Elab.async false
set_option linter.all false
set_option maxRecDepth 100000
set_option autoImplicit false
set_option maxHeartbeats 2000000
/-! Bb7: built-in functions over data. -/
namespace BB
open PySem PySem.Spec PyProof.Rows L2
section
variable {X : Cx} {S : Sg} {W : WX} {k : Nat} {e a b c : Expr} {p pos : Pos} {x : Str}
/-- a built-in of one argument: a value, a list just made -/
def B1 (S : Sg) (W : WX) {α β : Type} (Ok : Hp → Hp → Hp → β → α → Prop) (r : List V → Hp → (β → Hp → Prop) → Prop) (g : D → Wp α) : Prop :=
  ∀ (H0 : Ent) (δ : Env) (σ : Sl) (F H : Hp) (b : Nat) (R : Except Er α → Nat → Prop) (Q : β → Hp → Prop) (v : V) (x : D), Rel S H0 δ σ F H b → TV S F H v x → g x b R → Post S W Ok H0 δ σ F H R Q → r [v] H Q
theorem ex_b1 {id : String} {r : List V → Hp → VK → Prop} {g : D → Wp D} {fa : Env → Wp D} (hr : B1 S W OkV r g) (hc : CallR X (.builtin id) r) (hm : X.mg x = none) (hv : bootBuiltins x = some (.builtin id)) (ha : ET X S W a fa) (hg : Gl X x) (hn : x ≠ "__name__" := by decide) (hdb : (x == ("__debug__" : Str)) = false := by decide)
    (he : starEach [a] X.env = (false, eval a X.env) :: starEach [] X.env := by rfl) (hpl : (backTo pos (starEach [] X.env)).any (·.1) = false := by rfl) : EX X S W (.Call (.Name x p) [a] [] pos) (wk g fa) := by
  obtain ⟨t, pa, q⟩ := ha
  exact ⟨_, pe_callB hc hg hm hv (pa_cons pa pa_nil he) hn hdb he hpl, dg_b1 (r := fun v H Q => r [v] H Q) back_V hr q⟩
theorem ef_b1 {id : String} {r : List V → Hp → VK → Prop} {g : D → Wp (List D)} {fa : Env → Wp D} (hr : B1 S W OkF r g) (hc : CallR X (.builtin id) r) (hm : X.mg x = none) (hv : bootBuiltins x = some (.builtin id)) (ha : ET X S W a fa) (hg : Gl X x) (hn : x ≠ "__name__" := by decide) (hdb : (x == ("__debug__" : Str)) = false := by decide)
    (he : starEach [a] X.env = (false, eval a X.env) :: starEach [] X.env := by rfl) (hpl : (backTo pos (starEach [] X.env)).any (·.1) = false := by rfl) : EF X S W (.Call (.Name x p) [a] [] pos) (wk g fa) := by
  obtain ⟨t, pa, q⟩ := ha
  exact ⟨_, pe_callB hc hg hm hv (pa_cons pa pa_nil he) hn hdb he hpl, dg_b1 (r := fun v H Q => r [v] H Q) back_F hr q⟩
theorem ex_t1 {T : String} {r : List V → Hp → VK → Prop} {g : D → Wp D} {fa : Env → Wp D} (hr : B1 S W OkV r g) (hc : CallR X (.type T) r) (hm : X.mg x = none) (hv : bootBuiltins x = some (.type T)) (ha : ET X S W a fa) (hg : Gl X x) (hn : x ≠ "__name__" := by decide) (hdb : (x == ("__debug__" : Str)) = false := by decide)
    (he : starEach [a] X.env = (false, eval a X.env) :: starEach [] X.env := by rfl) (hpl : (backTo pos (starEach [] X.env)).any (·.1) = false := by rfl) : EX X S W (.Call (.Name x p) [a] [] pos) (wk g fa) := by
  obtain ⟨t, pa, q⟩ := ha
  exact ⟨_, pe_callTy hc hg hm hv (pa_cons pa pa_nil he) hn hdb he hpl, dg_b1 (r := fun v H Q => r [v] H Q) back_V hr q⟩
theorem ef_t1 {T : String} {r : List V → Hp → VK → Prop} {g : D → Wp (List D)} {fa : Env → Wp D} (hr : B1 S W OkF r g) (hc : CallR X (.type T) r) (hm : X.mg x = none) (hv : bootBuiltins x = some (.type T)) (ha : ET X S W a fa) (hg : Gl X x) (hn : x ≠ "__name__" := by decide) (hdb : (x == ("__debug__" : Str)) = false := by decide)
    (he : starEach [a] X.env = (false, eval a X.env) :: starEach [] X.env := by rfl) (hpl : (backTo pos (starEach [] X.env)).any (·.1) = false := by rfl) : EF X S W (.Call (.Name x p) [a] [] pos) (wk g fa) := by
  obtain ⟨t, pa, q⟩ := ha
  exact ⟨_, pe_callTy hc hg hm hv (pa_cons pa pa_nil he) hn hdb he hpl, dg_b1 (r := fun v H Q => r [v] H Q) back_F hr q⟩

/-! len, int, abs -/
def kLen : D → Wp D := fun x b R => match x with
  | .list ds => R (.ok (.int ds.length)) b
  | .tuple ds => R (.ok (.int ds.length)) b
  | .str y => y.length ≤ sizeLine ∧ R (.ok (.int y.length)) b
  | _ => False
theorem b1_len {K : PySem.W.Frag} : B1 S W OkV (fun xs H Q => ∃ x n, xs = [x] ∧ LenV K x H n ∧ Q (.int n) H) kLen := by
  intro H0 δ σ F H b R Q v x rel hx hf P
  cases x with
  | list ds =>
    obtain ⟨p, vs, rfl, h1, r1⟩ := hx.lst rel.sub
    exact ⟨_, ds.length, rfl, .inl ⟨vs, SqL.of h1, r1.length.symm⟩, P.now rel hf (.int _)⟩
  | tuple ds =>
    obtain ⟨p, vs, rfl, h1, r1⟩ := hx.tup
    exact ⟨_, ds.length, rfl, .inr ⟨vs, SqT.of (rel.sub _ _ h1), r1.length.symm⟩, P.now rel hf (.int _)⟩
  | str y =>
    have e := hx.str
    subst e
    exact ⟨_, y.length, rfl, ⟨hf.1, rfl⟩, P.now rel hf.2 (.int _)⟩
  | _ => exact hf.elim
theorem ex_len {fa : Env → Wp D} (hm : X.mg "len" = none) (ha : ET X S W a fa) (hg : Gl X "len" := by rfl) (he : starEach [a] X.env = (false, eval a X.env) :: starEach [] X.env := by rfl) (hpl : (backTo pos (starEach [] X.env)).any (·.1) = false := by rfl) :
    EX X S W (.Call (.Name "len" p) [a] [] pos) (wk kLen fa) := ex_b1 b1_len call_len hm PySem.boot_len ha hg (by decide) (by decide) he hpl
def kInt : D → Wp D := fun x b R => match x with
  | .int i => R (.ok (.int i)) b
  | .bool i => R (.ok (.int (if i then 1 else 0))) b
  | _ => False
theorem ex_toInt {fa : Env → Wp D} (hm : X.mg "int" = none) (ha : ET X S W a fa) (hg : Gl X "int" := by rfl) (he : starEach [a] X.env = (false, eval a X.env) :: starEach [] X.env := by rfl) (hpl : (backTo pos (starEach [] X.env)).any (·.1) = false := by rfl) :
    EX X S W (.Call (.Name "int" p) [a] [] pos) (wk kInt fa) := by
  refine ex_t1 (fun H0 δ σ F H b R Q v x rel hx hf P => ?_) call_int1 hm boot_int ha hg (by decide) (by decide) he hpl
  cases x with
  | int i => exact .inl ⟨i, by rw [hx.int], P.now rel hf (.int _)⟩
  | bool i => exact .inr ⟨i, by rw [hx.bool], P.now rel hf (.int _)⟩
  | _ => exact hf.elim
def kAbs : D → Wp D := fun x b R => match x with
  | .int i => R (.ok (.int (if i < 0 then -i else i))) b
  | _ => False
theorem ex_abs {fa : Env → Wp D} (hm : X.mg "abs" = none) (ha : ET X S W a fa) (hg : Gl X "abs" := by rfl) (he : starEach [a] X.env = (false, eval a X.env) :: starEach [] X.env := by rfl) (hpl : (backTo pos (starEach [] X.env)).any (·.1) = false := by rfl) :
    EX X S W (.Call (.Name "abs" p) [a] [] pos) (wk kAbs fa) := by
  refine ex_b1 (fun H0 δ σ F H b R Q v x rel hx hf P => ?_) call_abs hm (by decide +kernel) ha hg (by decide) (by decide) he hpl
  cases x with
  | int i => exact ⟨i, by rw [hx.int], P.now rel hf (.int _)⟩
  | _ => exact hf.elim
/-! tuple, list -/
def kTuple : D → Wp D := fun x b R => match x with
  | .list ds => R (.ok (.tuple ds)) b
  | .tuple ds => R (.ok (.tuple ds)) b
  | _ => False
theorem ex_tuple {fa : Env → Wp D} (hm : X.mg "tuple" = none) (ha : ET X S W a fa) (hg : Gl X "tuple" := by rfl) (he : starEach [a] X.env = (false, eval a X.env) :: starEach [] X.env := by rfl) (hpl : (backTo pos (starEach [] X.env)).any (·.1) = false := by rfl) :
    EX X S W (.Call (.Name "tuple" p) [a] [] pos) (wk kTuple fa) := by
  refine ex_t1 (fun H0 δ σ F H b R Q v x rel hx hf P => ?_) call_tuple_of hm (by decide +kernel) ha hg (by decide) (by decide) he hpl
  cases x with
  | list ds =>
    obtain ⟨p, vs, rfl, h1, r1⟩ := hx.lst rel.sub
    refine ⟨p, vs, rfl, .inl ⟨SqL.of h1, fun n hn => ?_⟩⟩
    have ex : Ex F (upd F n (.tup vs)) := Ex.nw (rel.sub.free hn)
    exact P.ok _ _ hf _ _ _ (rel.new hn) ex (Go.new hn) (.tup upd_same (r1.mono ex))
  | tuple ds =>
    obtain ⟨p, vs, rfl, h1, r1⟩ := hx.tup
    exact ⟨p, vs, rfl, .inr ⟨SqT.of (rel.sub _ _ h1), P.now rel hf (.tup h1 r1)⟩⟩
  | _ => exact hf.elim
def kList : D → Wp (List D) := fun x b R => match x with
  | .list ds => R (.ok ds) b
  | .tuple ds => R (.ok ds) b
  | _ => False
theorem ef_list {fa : Env → Wp D} (hm : X.mg "list" = none) (ha : ET X S W a fa) (hg : Gl X "list" := by rfl) (he : starEach [a] X.env = (false, eval a X.env) :: starEach [] X.env := by rfl) (hpl : (backTo pos (starEach [] X.env)).any (·.1) = false := by rfl) :
    EF X S W (.Call (.Name "list" p) [a] [] pos) (wk kList fa) := by
  refine ef_t1 (fun H0 δ σ F H b R Q v x rel hx hf P => ?_) call_list_of hm (by decide +kernel) ha hg (by decide) (by decide) he hpl
  cases x with
  | list ds =>
    obtain ⟨p, vs, rfl, h1, r1⟩ := hx.lst rel.sub
    exact ⟨p, vs, rfl, .inl (SqL.of h1), fun n hn => P.ok _ _ hf _ _ _ (rel.tmp hn) Ex.rfl' (Go.tmp hn) ⟨n, vs, rfl, hn, upd_same, rel.sub.free hn, r1⟩⟩
  | tuple ds =>
    obtain ⟨p, vs, rfl, h1, r1⟩ := hx.tup
    exact ⟨p, vs, rfl, .inr (SqT.of (rel.sub _ _ h1)), fun n hn => P.ok _ _ hf _ _ _ (rel.tmp hn) Ex.rfl' (Go.tmp hn) ⟨n, vs, rfl, hn, upd_same, rel.sub.free hn, r1⟩⟩
  | _ => exact hf.elim
/-! sum, any, all, max, min of lists -/
def kSum : D → Wp D := fun x b R => ∃ ns : List Int, x = .list (ns.map PyData.int) ∧ R (.ok (.int ns.sum)) b
theorem ex_sum {fa : Env → Wp D} (G : Cxt X S W k) (hm : X.mg "sum" = none) (ha : ET X S W a fa) (hg : Gl X "sum" := by rfl) (he : starEach [a] X.env = (false, eval a X.env) :: starEach [] X.env := by rfl) (hpl : (backTo pos (starEach [] X.env)).any (·.1) = false := by rfl) :
    EX X S W (.Call (.Name "sum" p) [a] [] pos) (wk kSum fa) := by
  refine ex_b1 (fun H0 δ σ F H b R Q v x rel hx hf P => ?_) (cr_sum G.calm) hm (by decide +kernel) ha hg (by decide) (by decide) he hpl
  obtain ⟨ns, rfl, hf⟩ := hf
  obtain ⟨p, vs, rfl, h1, r1⟩ := hx.lst rel.sub
  have e := r1.toInts
  subst e
  exact ⟨p, ns, rfl, SqL.of h1, P.now rel hf (.int _)⟩
def kAny : D → Wp D := fun x b R => ∃ bs : List Bool, x = .list (bs.map PyData.bool) ∧ R (.ok (.bool (bs.any id))) b
def kAll : D → Wp D := fun x b R => ∃ bs : List Bool, x = .list (bs.map PyData.bool) ∧ R (.ok (.bool (bs.all id))) b
theorem ex_any {fa : Env → Wp D} (G : Cxt X S W k) (hm : X.mg "any" = none) (ha : ET X S W a fa) (hg : Gl X "any" := by rfl) (he : starEach [a] X.env = (false, eval a X.env) :: starEach [] X.env := by rfl) (hpl : (backTo pos (starEach [] X.env)).any (·.1) = false := by rfl) :
    EX X S W (.Call (.Name "any" p) [a] [] pos) (wk kAny fa) := by
  refine ex_b1 (fun H0 δ σ F H b R Q v x rel hx hf P => ?_) (cr_any G.calm) hm (by decide +kernel) ha hg (by decide) (by decide) he hpl
  obtain ⟨ns, rfl, hf⟩ := hf
  obtain ⟨p, vs, rfl, h1, r1⟩ := hx.lst rel.sub
  have e := r1.toBools
  subst e
  exact ⟨p, ns, rfl, SqL.of h1, P.now rel hf (.bl _)⟩
theorem ex_all {fa : Env → Wp D} (G : Cxt X S W k) (hm : X.mg "all" = none) (ha : ET X S W a fa) (hg : Gl X "all" := by rfl) (he : starEach [a] X.env = (false, eval a X.env) :: starEach [] X.env := by rfl) (hpl : (backTo pos (starEach [] X.env)).any (·.1) = false := by rfl) :
    EX X S W (.Call (.Name "all" p) [a] [] pos) (wk kAll fa) := by
  refine ex_b1 (fun H0 δ σ F H b R Q v x rel hx hf P => ?_) (cr_all G.calm) hm (by decide +kernel) ha hg (by decide) (by decide) he hpl
  obtain ⟨ns, rfl, hf⟩ := hf
  obtain ⟨p, vs, rfl, h1, r1⟩ := hx.lst rel.sub
  have e := r1.toBools
  subst e
  exact ⟨p, ns, rfl, SqL.of h1, P.now rel hf (.bl _)⟩
def kMax : D → Wp D := fun x b R => ∃ ns : List Int, x = .list (ns.map PyData.int) ∧ 0 < ns.length ∧ ∀ m, m ∈ ns → (∀ y, y ∈ ns → y ≤ m) → R (.ok (.int m)) b
def kMin : D → Wp D := fun x b R => ∃ ns : List Int, x = .list (ns.map PyData.int) ∧ 0 < ns.length ∧ ∀ m, m ∈ ns → (∀ y, y ∈ ns → m ≤ y) → R (.ok (.int m)) b
theorem ex_max {fa : Env → Wp D} (G : Cxt X S W k) (hm : X.mg "max" = none) (ha : ET X S W a fa) (hg : Gl X "max" := by rfl) (he : starEach [a] X.env = (false, eval a X.env) :: starEach [] X.env := by rfl) (hpl : (backTo pos (starEach [] X.env)).any (·.1) = false := by rfl) :
    EX X S W (.Call (.Name "max" p) [a] [] pos) (wk kMax fa) := by
  refine ex_b1 (fun H0 δ σ F H b R Q v x rel hx hf P => ?_) (cr_max G.calm) hm (by decide +kernel) ha hg (by decide) (by decide) he hpl
  obtain ⟨ns, rfl, hz, hf⟩ := hf
  obtain ⟨p, vs, rfl, h1, r1⟩ := hx.lst rel.sub
  have e := r1.toInts
  subst e
  exact ⟨p, ns, rfl, SqL.of h1, hz, fun m h2 h3 => P.now rel (hf m h2 h3) (.int _)⟩
theorem ex_min {fa : Env → Wp D} (G : Cxt X S W k) (hm : X.mg "min" = none) (ha : ET X S W a fa) (hg : Gl X "min" := by rfl) (he : starEach [a] X.env = (false, eval a X.env) :: starEach [] X.env := by rfl) (hpl : (backTo pos (starEach [] X.env)).any (·.1) = false := by rfl) :
    EX X S W (.Call (.Name "min" p) [a] [] pos) (wk kMin fa) := by
  refine ex_b1 (fun H0 δ σ F H b R Q v x rel hx hf P => ?_) (cr_min G.calm) hm (by decide +kernel) ha hg (by decide) (by decide) he hpl
  obtain ⟨ns, rfl, hz, hf⟩ := hf
  obtain ⟨p, vs, rfl, h1, r1⟩ := hx.lst rel.sub
  have e := r1.toInts
  subst e
  exact ⟨p, ns, rfl, SqL.of h1, hz, fun m h2 h3 => P.now rel (hf m h2 h3) (.int _)⟩
/-! sorted, of ints -/
def kSorted : D → Wp (List D) := fun x b R => ∃ ns : List Int, x = .list (ns.map PyData.int) ∧ ∀ ns' : List Int, ns'.Perm ns → ns'.Pairwise (· ≤ ·) → R (.ok (ns'.map PyData.int)) b
theorem ef_sorted {fa : Env → Wp D} (hm : X.mg "sorted" = none) (ha : ET X S W a fa) (hg : Gl X "sorted" := by rfl) (he : starEach [a] X.env = (false, eval a X.env) :: starEach [] X.env := by rfl) (hpl : (backTo pos (starEach [] X.env)).any (·.1) = false := by rfl) :
    EF X S W (.Call (.Name "sorted" p) [a] [] pos) (wk kSorted fa) := by
  refine ef_b1 (fun H0 δ σ F H b R Q v x rel hx hf P => ?_) cr_sortedI hm (by decide +kernel) ha hg (by decide) (by decide) he hpl
  obtain ⟨ns, rfl, hf⟩ := hf
  obtain ⟨p, vs, rfl, h1, r1⟩ := hx.lst rel.sub
  have e := r1.toInts
  subst e
  exact ⟨p, ns, rfl, SqL.of h1, fun ns' n h2 h3 hn => P.ok _ _ (hf ns' h2 h3) _ _ _ (rel.tmp hn) Ex.rfl' (Go.tmp hn) ⟨n, _, rfl, hn, upd_same, rel.sub.free hn, IsDs.ints _⟩⟩
/-! repr -/
def reprOk (d : D) : Prop := d.showable = true ∧ d.hasDict = false ∧ d.depth ≤ 60 ∧ d.shown.length ≤ sizeLine
def kRepr : D → Wp D := fun x b R => match x with
  | .list ds => reprOk (.list ds) ∧ R (.ok (.str (PyData.list ds).shown)) b
  | .tuple ds => reprOk (.tuple ds) ∧ R (.ok (.str (PyData.tuple ds).shown)) b
  | _ => False
theorem cr_repr (G : Cxt X S W k) : CallR X (.builtin "repr") (fun xs H Q => ∃ a d, xs = [.ref a] ∧ Dp X.K H (.ref a) d ∧ reprOk d ∧ Q (.str d.shown) H) := by
  intro pins s σ H vs us Q I r h
  obtain ⟨a, d, rfl, hd, ⟨h1, h2, h3, h4⟩, q⟩ := h
  obtain ⟨u, rfl, ru⟩ := vals1 r
  have hu := G.hu64
  obtain ⟨as, rd⟩ := Dp.reads I d _ u hd ru
  cases ru
  refine repr_of_reads' rd h1 (PyData.noDict_hsm h2) G.gd (by omega) (fun _ _ z => z) (fun h' u tk hk => ?_) h4
  exact ⟨.str _, H, I.kept (t' := tk) hk, ⟨u, rfl⟩, q⟩
theorem ex_repr {fa : Env → Wp D} (G : Cxt X S W k) (hm : X.mg "repr" = none) (ha : ET X S W a fa) (hg : Gl X "repr" := by rfl) (he : starEach [a] X.env = (false, eval a X.env) :: starEach [] X.env := by rfl) (hpl : (backTo pos (starEach [] X.env)).any (·.1) = false := by rfl) :
    EX X S W (.Call (.Name "repr" p) [a] [] pos) (wk kRepr fa) := by
  refine ex_b1 (fun H0 δ σ F H b R Q v x rel hx hf P => ?_) (cr_repr G) hm (by decide +kernel) ha hg (by decide) (by decide) he hpl
  have dp := hx.dp (K := X.K) rel.sub
  cases x with
  | list ds =>
    obtain ⟨p, vs, rfl, h1, r1⟩ := hx.lst rel.sub
    exact ⟨p, _, rfl, dp, hf.1, P.now rel hf.2 (.str _)⟩
  | tuple ds =>
    obtain ⟨p, vs, rfl, h1, r1⟩ := hx.tup
    exact ⟨p, _, rfl, dp, hf.1, P.now rel hf.2 (.str _)⟩
  | _ => exact hf.elim

/-! in, not in -/
def flatD : D → Bool
  | .none => true
  | .bool _ => true
  | .int _ => true
  | .str _ => true
  | _ => false
/-- x in a list of any data, in a tuple of flat items -/
def kIn (neg : Bool) : D → D → Wp D := fun x y b R => match y with
  | .list ds => SeqAt.shaped x = true ∧ SeqAt.shaped (.list ds) = true ∧ R (.ok (.bool (if neg then !(ds.any fun z => PyData.eqv z x) else ds.any fun z => PyData.eqv z x))) b
  | .tuple ds => flatD x = true ∧ ds.all flatD = true ∧ R (.ok (.bool (if neg then !(ds.any fun z => PyData.eqv z x) else ds.any fun z => PyData.eqv z x))) b
  | _ => False
theorem flat_v {F H : Hp} {v : V} {d : D} (h : TV S F H v d) (f : flatD d = true) : flatV v = true ∧ IsD F v d := by
  cases d with
  | none => rw [h.non]; exact ⟨rfl, .non⟩
  | bool i => rw [h.bool]; exact ⟨rfl, .bl _⟩
  | int i => rw [h.int]; exact ⟨rfl, .int _⟩
  | str i => rw [h.str]; exact ⟨rfl, .str _⟩
  | _ => cases f
theorem eqv_V {F : Hp} {v u : V} {d e : D} (h : IsD F v d) (h' : IsD F u e) (f : flatD d = true) (f' : flatD e = true) : eqV v u = PyData.eqv d e := by
  cases h <;> cases h' <;> first | (simp only [eqV, PyData.eqv]; done) | cases f | cases f' | rfl
theorem inV_D {F : Hp} {v : V} {d : D} (h : IsD F v d) (f : flatD d = true) : ∀ {vs : List V} {ds : List D}, IsDs F vs ds → ds.all flatD = true → vs.all flatV = true ∧ inV v vs = ds.any fun z => PyData.eqv z d
  | _, _, .nil, _ => ⟨rfl, rfl⟩
  | _, _, .cons (v := v') (vs := vs) (d := d') (ds := ds) a b, q => by
    rw [List.all_cons, Bool.and_eq_true] at q
    obtain ⟨h1, h2⟩ := inV_D h f b q.2
    obtain ⟨h3, _⟩ := flat_v (S := ⟨[], fun _ => .none, false, 0, 0, []⟩) (H := F) (.inl a) q.1
    refine ⟨by rw [List.all_cons, h3, h1]; rfl, ?_⟩
    show (eqV v' v || inV v vs) = (PyData.eqv d' d || ds.any fun z => PyData.eqv z d)
    rw [eqv_V a h q.1 f, h2]
theorem r2g_in {K : PySem.W.Frag} : R2G S W OkV (fun x y H Q => rInD K x y H Q ∨ rIn K false x y H Q) (kIn false) := by
  intro H0 δ σ F H b R Q v u x y rel hx hy hf P
  cases y with
  | list ds => exact .inl ⟨x, ds, hx.dp rel.sub, hy.dp rel.sub, hf.1, hf.2.1, P.now rel hf.2.2 (.bl _)⟩
  | tuple ds =>
    obtain ⟨f1, f2, hf⟩ := hf
    obtain ⟨p, vs, rfl, h1, r1⟩ := hy.tup
    obtain ⟨g1, g2⟩ := flat_v hx f1
    obtain ⟨g3, g4⟩ := inV_D g2 f1 r1 f2
    refine .inr ⟨p, vs, rfl, .inr (SqT.of (rel.sub _ _ h1)), g1, g3, ?_⟩
    rw [g4]
    exact P.now rel hf (.bl _)
  | _ => exact hf.elim
theorem r2g_notIn {K : PySem.W.Frag} : R2G S W OkV (fun x y H Q => rNotInD K x y H Q ∨ rIn K true x y H Q) (kIn true) := by
  intro H0 δ σ F H b R Q v u x y rel hx hy hf P
  cases y with
  | list ds => exact .inl ⟨x, ds, hx.dp rel.sub, hy.dp rel.sub, hf.1, hf.2.1, P.now rel hf.2.2 (.bl _)⟩
  | tuple ds =>
    obtain ⟨f1, f2, hf⟩ := hf
    obtain ⟨p, vs, rfl, h1, r1⟩ := hy.tup
    obtain ⟨g1, g2⟩ := flat_v hx f1
    obtain ⟨g3, g4⟩ := inV_D g2 f1 r1 f2
    refine .inr ⟨p, vs, rfl, .inr (SqT.of (rel.sub _ _ h1)), g1, g3, ?_⟩
    rw [g4]
    exact P.now rel hf (.bl _)
  | _ => exact hf.elim
theorem ex_in {fa fb : Env → Wp D} (G : Cxt X S W k) (ha : ET X S W a fa) (hb : ET X S W b fb) (hm : behindInMarks .In b = false := by with_unfolding_all rfl) : EX X S W (.Compare a [.In] [b] pos) (wb2 (kIn false) fa fb) := ex_cmp (OpR.or (op_inD G.hu65) op_in_seq) r2g_in hm ha hb
theorem ex_notIn {fa fb : Env → Wp D} (G : Cxt X S W k) (ha : ET X S W a fa) (hb : ET X S W b fb) (hm : behindInMarks .NotIn b = false := by with_unfolding_all rfl) : EX X S W (.Compare a [.NotIn] [b] pos) (wb2 (kIn true) fa fb) := ex_cmp (OpR.or (op_notInD G.hu65) op_notIn_seq) r2g_notIn hm ha hb
theorem bx_in {fa fb : Env → Wp D} (G : Cxt X S W k) (ha : ET X S W a fa) (hb : ET X S W b fb) (hm : behindInMarks .In b = false := by with_unfolding_all rfl) : BX X S W (.Compare a [.In] [b] pos) (wtest (wb2 (kIn false) fa fb)) := bx_cmp (OpR.or (op_inD G.hu65) op_in_seq) r2g_in hm ha hb
theorem bx_notIn {fa fb : Env → Wp D} (G : Cxt X S W k) (ha : ET X S W a fa) (hb : ET X S W b fb) (hm : behindInMarks .NotIn b = false := by with_unfolding_all rfl) : BX X S W (.Compare a [.NotIn] [b] pos) (wtest (wb2 (kIn true) fa fb)) := bx_cmp (OpR.or (op_notInD G.hu65) op_notIn_seq) r2g_notIn hm ha hb

/-! slices -/
def cutD (xs : List D) (lo hi : Option Int) : List D := (xs.drop (HT.sIx xs.length 0 lo)).take (HT.sIx xs.length xs.length hi - HT.sIx xs.length 0 lo)
theorem IsDs.cut {F : Hp} {vs : List V} {ds : List D} (h : IsDs F vs ds) (lo hi : Option Int) : IsDs F (cutV vs lo hi) (cutD ds lo hi) := by
  unfold cutV cutD
  rw [h.length]
  exact IsDs.take _ (IsDs.drop _ h)
def OkO : Hp → Hp → Hp → Option Int → Option Int → Prop := fun _ _ _ o q => o = q
theorem back_O : Back OkO := fun _ _ _ _ _ _ _ h => h
def OX (X : Cx) (S : Sg) (W : WX) (e : Option Expr) (f : Env → Wp (Option Int)) : Prop := ∃ t, PO X e t ∧ DG S W OkO t f
def wnop : Env → Wp (Option Int) := fun _ => wret none
def wop (f : Env → Wp D) : Env → Wp (Option Int) := fun δ => wbind (f δ) fun d b R => match d with
  | .int i => R (.ok (some i)) b
  | _ => False
theorem ox_none : OX X S W none wnop := ⟨_, po_none, fun H0 δ σ F H b R Q rel hf P => P.now rel hf rfl⟩
theorem ox_some {f : Env → Wp D} (h : EX X S W e f) : OX X S W (some e) (wop f) := by
  obtain ⟨t, p, q⟩ := h
  refine ⟨_, po_some p, ?_⟩
  refine dg_seq (t2 := fun x _ H Q => ∃ i, x = .int i ∧ Q (some i) H) q back_O fun H0 δ σ Hp0 F H b R Q y x rel o hf P => ?_
  cases x with
  | int i => cases o; exact ⟨i, rfl, P.now rel hf rfl⟩
  | _ => exact hf.elim
def kSl (x : D) (lo hi : Option Int) : Wp D := fun b R => match x with
  | .list ds => R (.ok (.list (cutD ds lo hi))) b
  | .tuple ds => R (.ok (.tuple (cutD ds lo hi))) b
  | _ => False
def wsl (fa : Env → Wp D) (fl fh : Env → Wp (Option Int)) : Env → Wp D := fun δ => wbind (fa δ) fun x => wbind (fl δ) fun lo => wbind (fh δ) fun hi => kSl x lo hi
theorem ex_slice {lo hi : Option Expr} {p2 : Pos} {fa : Env → Wp D} {fl fh : Env → Wp (Option Int)} (ha : ET X S W a fa) (hl : OX X S W lo fl) (hh : OX X S W hi fh) : EX X S W (.Subscript a (.Slice lo hi none p2) pos) (wsl fa fl fh) := by
  obtain ⟨ta, p1, q1⟩ := ha
  obtain ⟨tl, p2', q2⟩ := hl
  obtain ⟨th, p3, q3⟩ := hh
  refine ⟨_, pe_slice (SlR.or sl_list sl_tupA) p1 p2' p3, ?_⟩
  refine dg_seq (t2 := fun x σ H Q => tl σ H fun l H2 => th σ H2 fun u H3 => (rSlL X.K x l u H3 Q ∨ rSlA X.K x l u H3 Q)) (f2 := fun x δ => wbind (fl δ) fun lo => wbind (fh δ) fun hi => kSl x lo hi) q1 back_V fun H0 δ σ Hp0 F H b R Q v x rel o hf P => ?_
  refine q2 H0 δ σ F H b _ _ rel hf ⟨fun l b1 r1 l' F1 H1 rel1 x1 g1 o1 => ?_, P.er⟩
  cases o1
  have P1 := P.at_ back_V rel1 x1 g1
  have o1 := fwd_T Hp0 F H F1 H1 v x x1 g1.fr o
  refine q3 H0 δ σ F1 H1 b1 _ _ rel1 r1 ⟨fun u b2 r2 u' F2 H2 rel2 x2 g2 o2 => ?_, P1.er⟩
  cases o2
  have P2 := P1.at_ back_V rel2 x2 g2
  have hv := fwd_T Hp0 F1 H1 F2 H2 v x x2 g2.fr o1
  cases x with
  | list ds =>
    obtain ⟨p, vs, rfl, h1, r⟩ := TV.lst (S := S) hv rel2.sub
    refine .inl ⟨p, vs, rfl, SqL.of h1, fun n hn => ?_⟩
    have ex : Ex F2 (upd F2 n (.lst (cutV vs l u))) := Ex.nw (rel2.sub.free hn)
    exact P2.ok _ _ r2 _ _ _ (rel2.new hn) ex (Go.new hn) (.lst upd_same ((r.cut l u).mono ex))
  | tuple ds =>
    obtain ⟨p, vs, rfl, h1, r⟩ := TV.tup (S := S) hv
    refine .inr ⟨p, vs, rfl, SqT.of (rel2.sub _ _ h1), fun z => ?_, fun z n hn => ?_⟩
    · refine P2.now rel2 r2 (.tup h1 ?_)
      have e : cutD ds l u = ds := by
        unfold cutD
        rw [r.length] at z
        rw [z.1, z.2]
        simp
      rw [e]; exact r
    · have ex : Ex F2 (upd F2 n (.tup (cutV vs l u))) := Ex.nw (rel2.sub.free hn)
      exact P2.ok _ _ r2 _ _ _ (rel2.new hn) ex (Go.new hn) (.tup upd_same ((r.cut l u).mono ex))
  | _ => exact r2.elim
end
end BB
set_option Elab.async false
set_option linter.all false
set_option maxRecDepth 100000
set_option autoImplicit false
set_option maxHeartbeats 2000000
/-! Bb8: the law's own state, its draws, its end. -/
namespace BB
open PySem PySem.Spec PyProof.Rows L2

section
variable {X : Cx} {S : Sg} {W : WX} {k : Nat} {a : Expr} {pos : Pos}
/-- script[:n] -/
def wcutR (i : Nat) (hi : Int) : Env → Wp D := fun δ b R => match δ[i]? with
  | some (some (.ro ns)) => R (.ok (.list ((cutD (ns.map PyData.int) none (some hi))))) b
  | _ => False
theorem cutV_ints (ns : List Int) (lo hi : Option Int) : ∃ ms : List Int, cutV (ns.map V.int) lo hi = ms.map V.int ∧ cutD (ns.map PyData.int) lo hi = ms.map PyData.int := by
  refine ⟨(ns.drop (HT.sIx ns.length 0 lo)).take (HT.sIx ns.length ns.length hi - HT.sIx ns.length 0 lo), ?_, ?_⟩
  · unfold cutV; rw [List.length_map, List.map_take, List.map_drop]
  · unfold cutD; rw [List.length_map, List.map_take, List.map_drop]
theorem ex_cutR {i j : Nat} {hi : Int} {p2 p3 : Pos} (G : Cxt X S W k) (ho : PE X a (tVar i)) : EX X S W (.Subscript a (.Slice none (some (.Constant (.int hi) j p3)) none p2) pos) (wcutR i hi) := by
  refine ⟨_, pe_slice sl_list ho po_none (po_some pe_int), fun H0 δ σ F H b R Q rel hf P => ?_⟩
  unfold wcutR at hf
  split at hf
  · rename_i ns hd
    obtain ⟨v, e1, o⟩ := rel.cell i _ hd
    obtain ⟨n, rfl, q⟩ := o
    obtain ⟨ms, m1, m2⟩ := cutV_ints ns none (some hi)
    refine ⟨_, e1, hi, rfl, n, ns.map V.int, rfl, by have z := q H rel.sub; rw [G.kS] at z; exact z, fun p hp => ?_⟩
    rw [m2] at hf
    rw [m1]
    have ex : Ex F (upd F p (.lst (ms.map V.int))) := Ex.nw (rel.sub.free hp)
    exact P.ok _ _ hf _ _ _ (rel.new hp) ex (Go.new hp) (.lst upd_same (IsDs.ints ms))
  · exact hf.elim
end

/-! ### a draw -/
/-- _law_next: any number below the second argument; one draw less is left -/
def specNext : Spec := fun cs b R => ∃ m : Int, cs = [.st, .val (.int m)] ∧ 0 < m ∧ 0 < b ∧ ∀ v : Int, 0 ≤ v → v < m → R (.ok (.int v)) (b - 1)
abbrev rDivW : R2 := rI CDivW fun i j => .int (i / j)
abbrev rMulX : R2 := rI CMulX fun i j => .int (i * j)
abbrev rModP : R2 := rI (fun _ j => 0 < j) fun i j => .int (i % j)
abbrev rAddI : R2 := rI0 fun i j => .int (i + j)
abbrev rLen1 (K : PySem.W.Frag) : List V → Hp → VK → Prop := fun xs H Q => ∃ x n, xs = [x] ∧ LenV K x H n ∧ Q (.int n) H
abbrev rInt1 : List V → Hp → VK → Prop := fun xs H Q => (∃ i, xs = [.int i] ∧ Q (.int i) H) ∨ ∃ k, xs = [.bl k] ∧ Q (.int (if k then 1 else 0)) H
/-- state[1], state[0], len(state[0]) -/
def tS1 (K : PySem.W.Frag) : TE := tOp (rIxL K) (tVar 0) (tC (.int 1))
def tS0 (K : PySem.W.Frag) : TE := tOp (rIxL K) (tVar 0) (tC (.int 0))
def tSL (K : PySem.W.Frag) : TE := tCB (rLen1 K) (tCons (tS0 K) tNil)
def t_next (K : PySem.W.Frag) : TS :=
  tSeq (tAsg (tOp rAddI (tS1 K) (tC (.int 1))) (gSub (tVar 0) (tC (.int 1)) rSetL))
    (tSeq (tAsg (tOp rDivW (tS1 K) (tSL K)) (gName 2))
      (tRet (tOp rModP (tCB rInt1 (tCons (tOp rAddI (tOp rAddI (tOp (rIxL K) (tS0 K) (tOp rModP (tS1 K) (tSL K))) (tOp rMulX (tVar 2) (tC (.int 389)))) (tOp rMulX (tOp rMulX (tS1 K) (tVar 2)) (tC (.int 17)))) tNil)) (tVar 1))))
theorem at_S1 {K : PySem.W.Frag} {st nu : Addr} {g : Int} {σ : Sl} {H : Hp} {Q : VK} (h0 : σ[0]? = some (some (.ref st))) (h1 : H st = some (.lst [.ref nu, .int g])) (q : Q (.int g) H) : tS1 K σ H Q :=
  ⟨_, h0, st, _, 1, .int g, rfl, rfl, SqL.of h1, rfl, q⟩
theorem at_S0 {K : PySem.W.Frag} {st nu : Addr} {g : Int} {σ : Sl} {H : Hp} {Q : VK} (h0 : σ[0]? = some (some (.ref st))) (h1 : H st = some (.lst [.ref nu, .int g])) (q : Q (.ref nu) H) : tS0 K σ H Q :=
  ⟨_, h0, st, _, 0, .ref nu, rfl, rfl, SqL.of h1, rfl, q⟩
theorem at_SL {K : PySem.W.Frag} {st nu : Addr} {g : Int} {ns : List Int} {σ : Sl} {H : Hp} {Q : VK} (h0 : σ[0]? = some (some (.ref st))) (h1 : H st = some (.lst [.ref nu, .int g])) (h2 : H nu = some (.lst (ns.map V.int))) (q : Q (.int ns.length) H) : tSL K σ H Q :=
  at_S0 h0 h1 ⟨_, ns.length, rfl, .inl ⟨_, SqL.of h2, by rw [List.length_map]⟩, q⟩
theorem atI_mod {α : Type} {xs : List α} {i : Int} (h : 0 < xs.length) : ∃ x, atI xs (i % (xs.length : Int)) = some x ∧ x ∈ xs := by
  have h1 : 0 ≤ i % (xs.length : Int) := Int.emod_nonneg _ (by omega)
  have h2 : i % (xs.length : Int) < xs.length := Int.emod_lt_of_pos _ (by omega)
  obtain ⟨n, hn⟩ := Int.eq_ofNat_of_zero_le h1
  have hl : n < xs.length := by omega
  refine ⟨xs[n], ?_, List.getElem_mem hl⟩
  have e : ixN xs.length (i % (xs.length : Int)) = some n := by
    rw [hn]
    unfold ixN
    simp [hl]
  unfold atI
  rw [e]
  simp [hl]
theorem nat_ab {i : Int} {n : Nat} (h0 : 0 ≤ i) (h : i < 2 ^ n) : i.natAbs < 2 ^ n := by
  have := Int.natAbs_of_nonneg h0
  have : (i.natAbs : Int) < ((2 ^ n : Nat) : Int) := by rw [this]; exact_mod_cast h
  exact_mod_cast this
theorem read_next {K : PySem.W.Frag} {T : Er → Value} {vs : List V} {H : Hp} {Q : VK} {E : XK} (h : spD K T ["state", "many"] specNext vs H Q E) : t_next K { nx := fun _ H' => Q .non H', rt := Q } (L2.start ["state", "many", "turn"] vs) H := by
  obtain ⟨hl, S, F, b, cs, R, hK, hT, ex, so, ha, ⟨m, rfl, hm, hb, hR⟩, h1, h2⟩ := h
  obtain ⟨v, rfl, on, rfl⟩ : ∃ v, vs = [v, .int m] ∧ S.on = true ∧ v = .ref S.st := by
    cases ha with
    | cons a1 a2 =>
      cases a2 with
      | cons a3 a4 =>
        cases a4
        obtain ⟨on, e⟩ := a1
        have a3' : IsD F _ (.int m) := a3
        cases a3'
        exact ⟨_, rfl, on, e⟩
  obtain ⟨g, g0, g1, hg⟩ := so.at_ on
  obtain ⟨n0, n1, n2⟩ := so.some_ on
  have hnu := ex _ _ (so.nu on)
  have ne : S.nu ≠ S.st := fun z => by
    have q := so.nu on
    rw [z, so.out on] at q; cases q
  have lid : drawLid = 1000000000000000000 := rfl
  have hst1 : upd H S.st (.lst [.ref S.nu, .int (g + 1)]) S.st = some (.lst [.ref S.nu, .int (g + 1)]) := upd_same
  have hnu1 : upd H S.st (.lst [.ref S.nu, .int (g + 1)]) S.nu = some (.lst (S.nums.map V.int)) := by rw [upd_ne ne]; exact hnu
  have ll : 0 < (S.nums.map V.int).length := by rw [List.length_map]; exact n0
  obtain ⟨x, x1, x2⟩ := atI_mod (i := g + 1) ll
  rw [List.length_map] at x1
  obtain ⟨w, w1, rfl⟩ := List.mem_map.1 x2
  obtain ⟨w2, w3⟩ := n2 w w1
  have gb : g + 1 < 2 ^ 60 := by omega
  have d0 : 0 ≤ (g + 1) / (S.nums.length : Int) := Int.ediv_nonneg (by omega) (by omega)
  have d1 : (g + 1) / (S.nums.length : Int) ≤ g + 1 := Int.ediv_le_self _ (by omega)
  have k1 : ((g + 1) / (S.nums.length : Int)).natAbs < 2 ^ 60 := nat_ab d0 (by omega)
  have k2 : (g + 1).natAbs < 2 ^ 60 := nat_ab (by omega) gb
  have k3 : ((g + 1) * ((g + 1) / (S.nums.length : Int))).natAbs < 2 ^ 120 := by
    rw [Int.natAbs_mul]
    calc _ < 2 ^ 60 * 2 ^ 60 := Nat.mul_lt_mul'' k2 k1
      _ = 2 ^ 120 := by rw [← Nat.pow_add]
  refine at_S1 rfl hg ⟨g, 1, rfl, rfl, ?_⟩
  refine ⟨.ref S.st, rfl, S.st, [.ref S.nu, .int g], 1, 1, rfl, rfl, hg, rfl, ?_⟩
  refine at_S1 rfl hst1 (at_SL rfl hst1 hnu1 ⟨g + 1, S.nums.length, rfl, rfl, ?_, ?_⟩)
  · exact wide_div (b := 60) (by omega) (nat_ab (by omega) (by omega)) (by omega) (by omega)
  refine at_S0 rfl hst1 (at_S1 rfl hst1 (at_SL rfl hst1 hnu1 ⟨g + 1, S.nums.length, rfl, rfl, by omega, S.nu, S.nums.map V.int, _, .int w, rfl, rfl, SqL.of hnu1, x1, ?_⟩))
  refine ⟨_, rfl, (g + 1) / S.nums.length, 389, rfl, rfl, mulx_ok (b := 9) k1 (by decide) (by decide), ?_⟩
  refine ⟨w, _, rfl, rfl, ?_⟩
  refine at_S1 rfl hst1 ⟨_, rfl, g + 1, (g + 1) / S.nums.length, rfl, rfl, mulx_ok k2 k1 (by decide), ?_⟩
  refine ⟨_, 17, rfl, rfl, mulx_ok (b := 5) k3 (by decide) (by decide), _, _, rfl, rfl, .inl ⟨_, rfl, _, rfl, _, m, rfl, rfl, hm, ?_⟩⟩
  have ns : ∀ a o, F a = some o → a ≠ S.st := fun a o e z => by rw [z, so.out on] at e; cases e
  refine h1 _ (b - 1) (hR _ (Int.emod_nonneg _ (by omega)) (Int.emod_lt_of_pos _ hm)) _ F _ ⟨so.out, so.nu, fun _ => ⟨g + 1, by omega, ?_, hst1⟩, so.some_⟩ Ex.rfl' ?_ ?_ (fun a o e => .inl e) (.int _)
  · have : ((b - 1 : Nat) : Int) = (b : Int) - 1 := by omega
    omega
  · intro a o e
    show upd H S.st _ a = some o
    rw [upd_ne (ns a o e)]; exact ex a o e
  · intro a o e n
    show upd H S.st _ a = some o
    rw [upd_ne (n on)]; exact e
end BB
set_option Elab.async false
set_option linter.all false
set_option maxRecDepth 100000
set_option autoImplicit false
set_option maxHeartbeats 2000000
/-! Bb9: the suite of a try, where an error is handled. -/
namespace BB
open PySem PySem.Spec PyProof.Rows L2 HotX L2H

section
variable {prog : Program} {w : World} {A : Around} {E : Value → Shared → Prop} {s : Shared}
theorem list_end_hot {it l x1 : Addr} {i : Nat} {items : Array Value} {Q : Option Value → Shared → Prop} (hot : HotAt A x1 s.heap) (hi : s.heap.IsListIter it l i) (hl : s.heap.IsList l items) (hx : items[i]? = none)
    (hQ : ∀ h', (∀ b o, b ≠ it → s.heap.get? b = some o → h'.get? b = some o) → Q none { s with heap := h' }) : wpAny (model prog w) A (pyNext (.ref it)) Q E s := by
  obtain ⟨oi, gi, ci, di⟩ := id hi
  obtain ⟨ol, gl, _, nl, dl⟩ := hl
  obtain ⟨hh, o1, v1, g1, d1, c1⟩ := hot
  have hne : x1 ≠ it := fun z => by
    subst z
    rw [gi] at g1; cases g1
    rw [di] at d1; cases d1
    cases c1
  unfold pyNext
  refine wpAny_bind (wpAny_attempt (wpAny_callSpecial?_slot (name := Str.ofString "__next__") hi.typeIs slot_listiter_next (wpAny_call_entry slot_listiter_next hi.typeIs entry_listiter_next ?_ (args_listiter_next _))))
  show wpAny _ _ (field (.ref it) 0 >>= _) _ _ s
  refine wpAny_bind (wpAny_field gi di (x := .ref l) rfl ?_)
  show wpAny _ _ (if (Value.ref l == Value.none) = true then _ else _) _ _ s
  rw [if_neg (show ¬ ((Value.ref l == Value.none) = true) from Bool.false_ne_true)]
  show wpAny _ _ (field (.ref it) 1 >>= _) _ _ s
  refine wpAny_bind (wpAny_field gi di (x := .int i 0) rfl ?_)
  show wpAny _ _ (seqItems? (.ref l) >>= _) _ _ s
  refine wpAny_bind (wpAny_seqItems gl dl ?_)
  simp only [Int.toNat_natCast, hx]
  refine wpAny_bind (wpAny_rule (wpAny_bind (wpAny_setField gi di (by simp) ?_)))
  show wpAny _ _ (newExc (.type "StopIteration") [] >>= _) _ _ _
  refine wpAny_bind ?_
  simp only [newExc, newTuple]
  refine wpAny_bind (wpAny_newObj_type ?_ (by size_fits))
  refine wpAny_bind (m := firstArgMember _ _) (wpAny_of_eq (a := Value.none) (by first | rfl | (simp only [firstArgMember]; rfl)) ?_)
  refine wpAny_newObj_type ?_ (by size_fits)
  have g2 : (s.heap.update it (Obj.mapFields fun x => x.setIfInBounds 0 Value.none)).get? x1 = some o1 := (Heap.get?_update_other _ _ hne.symm).trans g1
  refine raiseNew_hot ⟨hh, o1, v1, Heap.get?_push_of_some _ (Heap.get?_push_of_some _ g2), d1, c1⟩ (Nat.ne_of_lt (Heap.lt_size (Heap.get?_push_of_some _ g2))) (Heap.get?_push_size _ rfl) rfl (by first | (simp; done) | (simp; omega) | (simp only [Array.size_append]; simp; omega)) ?_
  refine wpAny_bind (wpAny_isInstance (T := "StopIteration") (b := true) ⟨_, Heap.get?_update_self _ (Heap.get?_push_size _ rfl) rfl, rfl⟩ isSubtype_stop ?_)
  refine wpAny_pure (hQ _ fun b o hb e => ?_)
  have e1 : (s.heap.update it (Obj.mapFields fun x => x.setIfInBounds 0 Value.none)).get? b = some o := (Heap.get?_update_other _ _ (Ne.symm hb)).trans e
  rw [Heap.get?_update_other _ _ (Nat.ne_of_gt (Heap.lt_size (Heap.get?_push_of_some _ e1)))]
  exact Heap.get?_push_of_some _ (Heap.get?_push_of_some _ e1)
theorem HotAt.by_ {x1 : Addr} {h h' : Heap} (t : HotAt A x1 h) (k : ∀ o, h.get? x1 = some o → h'.get? x1 = some o) : HotAt A x1 h' := by
  obtain ⟨a, o, v, e, r⟩ := t
  exact ⟨a, o, v, k o e, r⟩
theorem walks_hot {x1 : Addr} (I ax : Addr) (hne : ax ≠ I) (h1 : x1 ≠ I) (items : Array Value) :
    Walks prog w A I [I, ax, x1] [I] items.size (fun i v => items[i]? = some v) (fun i h => HotAt A x1 h ∧ h.IsListIter I ax i ∧ h.IsList ax items) where
  sub := fun b hb => by simp at hb; simp [hb]
  frame := fun _ _ _ st hk => ⟨HotAt.by_ st.1 fun o e => hk x1 (by simp) o e, st.2.1.at fun o e => hk I (by simp) o e, st.2.2.at fun o e => hk ax (by simp) o e⟩
  item := fun i s Q E hi st hQ => by
    refine wpAny_pyNext_list_item st.2.1 st.2.2 (x := items[i]) (by simp [hi]) fun h' hit' hs' => ?_
    exact hQ _ h' s.toks (by simp [hi]) ⟨HotAt.by_ st.1 fun o e => hs'.extBut x1 o h1 e, hit', st.2.2.extBut hs'.extBut hne⟩ fun b o hb e => hs'.extBut b o (fun h => hb (by simp [h])) e
  done := fun s Q E st hQ => list_end_hot st.1 st.2.1 st.2.2 (by simp) fun h' he' => hQ h' s.toks fun b o hb e => he' b o (fun h => hb (by simp [h])) e
  self := fun _ _ _ _ st hQ => wpAny_pyIter_listiter st.2.1 hQ
theorem pre_take (ns : List Int) : ∀ j, preSum (fun i => ns.getD i 0) j = (ns.take j).sum
  | 0 => by simp [preSum]
  | j + 1 => by
    show preSum _ j + ns.getD j 0 = _
    rw [pre_take ns j]
    by_cases h : j < ns.length
    · rw [List.take_succ_eq_append_getElem h, List.sum_append]; simp [h]
    · have h' : ns.length ≤ j := by omega
      rw [List.take_of_length_le h', List.take_of_length_le (by omega)]; simp [h']
end
section
variable {X : Cx}
/-- sum(xs), xs ints, where an error is handled -/
theorem cr_sumHot (hot : HotC X) : CallR X (.builtin "sum") (rSum X.K) := by
  intro pins s σ H vs us Q I r h
  obtain ⟨a, ns, rfl, hs, q⟩ := h
  obtain ⟨its, rv, hl, _⟩ := I.list hs
  rw [Vals.ref1 r]
  obtain ⟨x1, hx⟩ := hot.at I
  have li := hl.isList
  have alt : a < s.heap.objs.size := by
    obtain ⟨o, e, _⟩ := id li
    exact Heap.lt_size e
  have xlt : x1 < s.heap.objs.size := by
    obtain ⟨_, o, v, e, _⟩ := id hx
    exact Heap.lt_size e
  have kk : ∀ b o, s.heap.get? b = some o → (s.heap.push { cls := .type "list_iterator", data := .fields #[.ref a, .int 0 0] }).get? b = some o := fun b o e => Heap.get?_push_of_some _ e
  refine call_sum_walkG (wpAny_pyIter_list li ?_)
  refine ⟨s.heap.objs.size, [s.heap.objs.size, a, x1], [s.heap.objs.size], its.toArray.size, _, _, fun i => ns.getD i 0, rfl, walks_hot _ a (Nat.ne_of_lt alt) (Nat.ne_of_lt xlt) its.toArray, ⟨HotAt.by_ hx fun o e => Heap.get?_push_of_some _ e, ⟨_, Heap.get?_push_size _ rfl, rfl, rfl⟩, li.at fun o e => Heap.get?_push_of_some _ e⟩, fun b hb => ?_, fun i v hv => ?_, fun h' tk t' hk => ?_⟩
  · rw [Heap.size_push]
    simp only [List.mem_cons, List.not_mem_nil, or_false] at hb
    rcases hb with z | z | z
    · rw [z]; exact Nat.lt_succ_self _
    · rw [z]; exact Nat.lt_succ_of_lt alt
    · rw [z]; exact Nat.lt_succ_of_lt xlt
  · have hv' : its[i]? = some v := by simpa using hv
    have hm : (ns.map V.int)[i]? = some (.int (ns.getD i 0)) := by
      have hl := rv.length
      have : i < its.length := (List.getElem?_eq_some_iff.1 hv').1
      have : i < ns.length := by rw [List.length_map] at hl; omega
      simp [this]
    obtain ⟨u, hu, t, e⟩ := rv.get hm
    rw [hv'] at hu; cases hu
    exact ⟨t, e⟩
  · have e : preSum (fun i => ns.getD i 0) its.toArray.size = ns.sum := by
      rw [pre_take, List.take_of_length_le]
      have hl := rv.length
      simp at hl ⊢; omega
    rw [e]
    have no : ∀ b o, s.heap.get? b = some o → b ∉ [s.heap.objs.size] := fun b o e z => by
      have z' : b = s.heap.objs.size := by simpa using z
      rw [z'] at e
      exact absurd (Heap.lt_size e) (Nat.lt_irrefl _)
    exact ⟨.int _, H, I.kept (t' := tk) fun b o e => hk b o (no b o e) (Heap.get?_push_of_some _ e), ⟨_, rfl⟩, q⟩
theorem there_of {P : Program} {w : World} {H : Hp} {h : Heap} {a : Addr} : ∀ {o : HO}, ObjOk P w H h a o → ∃ u, h.get? a = some u
  | .lst _, ⟨_, _, _, _, e⟩ => ⟨_, e⟩
  | .tup _, ⟨_, _, _, _, e, _⟩ => ⟨_, e⟩
  | .dK _, ⟨_, _, _, _, _, _, _, e, _⟩ => ⟨_, e⟩
  | .dT _, ⟨_, _, _, _, _, _, _, e, _⟩ => ⟨_, e⟩
  | .set _ _, ⟨_, _, _, _, e, _⟩ => ⟨_, e⟩
  | .ins _ _ _, ⟨_, _, _, e, _⟩ => ⟨_, e⟩
  | .own _, ⟨_, e⟩ => ⟨_, e⟩
  | .xd _, ⟨_, ⟨_, _, _, e, _⟩, _⟩ => ⟨_, e⟩
  | .rng _ _, ⟨_, _, _, e⟩ => ⟨_, e⟩
  | .frz _ _, ⟨e, _⟩ => ⟨_, e⟩
  | .tbl _, e => ⟨_, e⟩
  | .met _ _, e => ⟨_, e⟩
  | .ext _, ⟨_, ⟨_, e⟩, _⟩ => ⟨_, e⟩
theorem gone_of {P : Program} {w : World} {H : Hp} {h : Heap} {a : Addr} (x : HOk P w H h) (n : h.get? a = none) : H a = none := by
  cases q : H a with
  | none => rfl
  | some o =>
    obtain ⟨u, e⟩ := there_of (x a o q)
    rw [n] at e; cases e
/-- a new object laid where nothing stood -/
theorem laid_at {pins : List (Addr × Obj)} {σ : Sl} {H : Hp} {s : Shared} {h' : Heap} {a : Addr} {o : HO} {t' : Nat} (I : Inv X pins σ H s) (k : ∀ b u, s.heap.get? b = some u → h'.get? b = some u) (n : s.heap.get? a = none) (new : ObjOk X.prog X.w (upd H a o) h' a o) :
    Inv X pins σ (upd H a o) { s with heap := h', toks := t' } := by
  have hn := gone_of I.hok n
  have ne : ∀ b u, s.heap.get? b = some u → b ≠ a := fun b u e z => by rw [z, n] at e; cases e
  refine I.un ⟨fun b u q _ _ _ => k b u q, fun b u q _ _ _ => ⟨u.slots, k b u q⟩, fun b u q m _ => by rw [upd_ne (ne b u q)]; exact m, fun b u q _ => ⟨u, k b u q⟩, fun b xs q => Ex.nw hn _ _ q, fun b u xs q => Ex.nw hn _ _ q, fun b ps q => ⟨#[], by rw [Array.append_empty]; exact Ex.nw hn _ _ q⟩⟩ fun b u e => ?_
  by_cases hb : b = a
  · subst hb; rw [upd_same] at e; cases e; exact new
  · rw [upd_ne hb] at e
    exact (I.hok b u e).stay (fun c v _ q => k c v q) (fun c q => Ex.nw hn _ _ q) fun c xs q => Ex.nw hn _ _ q
/-- [int(one) for one in names], names bools, where an error is handled -/
def tInts (K : PySem.W.Frag) (i : Nat) : TE := fun σ H Q => ∃ (a : Addr) (bs : List Bool), σ[i]? = some (some (.ref a)) ∧ SqL K H a (bs.map V.bl) ∧ ∀ p, H p = none → Q (.ref p) (upd H p (.lst (bs.map fun b => V.int (if b then 1 else 0))))
theorem pe_intsHot {i : Nat} {v c : Str} {p1 p2 p3 px pn pos : Pos} {scope : Scope} (hot : HotC X) (hN : X.N[i]? = some v) (hv : Vis X.env.scope v) (hm : X.mg "int" = none)
    (hfree : ∀ y ∈ scope.names, y.2 ≠ .free) (hcell : ∀ y ∈ scope.names, y.2 ≠ .cell) (hkind : scope.kind = .function) (hnames : ∀ y ∈ scope.names, y.2 = .local → scope.names.lookup y.1 = some .local) (hx : scope.names.lookup c = some .local) (hgi : scope.names.lookup ("int" : Str) = some NameKind.globalImplicit)
    (hd : (v == ("__debug__" : Str)) = false) (hcd : (v == ("__classdict__" : Str)) = false) (hd2 : (c == ("__debug__" : Str)) = false) : PE X (.ListComp (.Call (.Name "int" p1) [.Name c p2] [] p3) [⟨.Name c px, .Name v pn, [], 0⟩] scope pos) (tInts X.K i) := by
  refine ⟨fun pins s σ H Q I h => ?_⟩
  obtain ⟨a, bs, hσ, hq, q⟩ := h
  refine wpAny_ListComp_walk (fun _ => true) (fun v y => ∃ b t, v = .bool b ∧ y = .int (if b then 1 else 0) t) hfree hcell hkind hnames hx ?_
  refine thn ((pe_var hN hv hd hcd).run pins s σ H (fun x H' => x = .ref a ∧ H' = H) I ⟨_, hσ, rfl, rfl⟩) fun u s1 ⟨x, H1, I1, r1, e1, e2⟩ => ?_
  subst e1 e2
  obtain rfl : u = .ref a := r1
  obtain ⟨its, rv, hl, hz⟩ := I1.list hq
  obtain ⟨x1, hx1⟩ := hot.at I1
  have li := hl.isList
  have alt : a < s1.heap.objs.size := by
    obtain ⟨o, e, _⟩ := id li
    exact Heap.lt_size e
  have xlt : x1 < s1.heap.objs.size := by
    obtain ⟨_, o, v, e, _⟩ := id hx1
    exact Heap.lt_size e
  have bl : ∀ (i : Nat) (v : Value), its.toArray[i]? = some v → ∃ b, bs[i]? = some b ∧ v = .bool b := fun i v hv => by
    have hv' : its[i]? = some v := by simpa using hv
    have hl := rv.length
    have h1 : i < its.length := (List.getElem?_eq_some_iff.1 hv').1
    have h2 : i < bs.length := by rw [List.length_map] at hl; omega
    have hm : (bs.map V.bl)[i]? = some (.bl bs[i]) := by simp [h2]
    obtain ⟨u, hu, r⟩ := rv.get hm
    rw [hv'] at hu; cases hu
    exact ⟨bs[i], by simp [h2], r⟩
  have sz : its.length = bs.length := by have := rv.length; simpa using this.symm
  refine wpAny_pyIter_list li ?_
  refine ⟨s1.heap.objs.size, [s1.heap.objs.size, a, x1], [s1.heap.objs.size], its.toArray.size, _, _, rfl, walks_hot _ a (Nat.ne_of_lt alt) (Nat.ne_of_lt xlt) its.toArray, by have := rv.length; simp at this hz ⊢; omega, ⟨HotAt.by_ hx1 fun o e => Heap.get?_push_of_some _ e, ⟨_, Heap.get?_push_size _ rfl, rfl, rfl⟩, li.at fun o e => Heap.get?_push_of_some _ e⟩, fun b hb => ?_, ⟨?_, ?_⟩, ?_⟩
  · rw [Heap.size_push]
    simp only [List.mem_cons, List.not_mem_nil, or_false] at hb
    rcases hb with z | z | z
    · rw [z]; exact Nat.lt_succ_self _
    · rw [z]; exact Nat.lt_succ_of_lt alt
    · rw [z]; exact Nat.lt_succ_of_lt xlt
  · intro C i v s3 m3 E' _ _ _ _ _
    exact wpAny_tests_nil ⟨rfl, s3.heap, s3.toks, rfl, fun _ _ e => e⟩
  · intro C i v s3 m3 E' hv _ hn hm3 hk ht
    obtain ⟨b, _, rfl⟩ := bl i v hv
    have up : ∀ b o, X.base.get? b = some o → s3.heap.get? b = some o := fun b o e => by
      have e1 := I1.bk b o e
      refine hk b o (fun z => ?_) (Heap.get?_push_of_some _ e1)
      have z' : b = s1.heap.objs.size := by simpa using z
      rw [z'] at e1
      exact absurd (Heap.lt_size e1) (Nat.lt_irrefl _)
    obtain ⟨mb, hb1, hb2⟩ := I1.mod.blt
    refine wpAny_Call_Name_kw (Calls.Name_function_global hkind hgi (Calls.loadGlobal_builtin (mg := X.mg) (mb := mb) (v := .type "int") (by show s3.heap.Ns X.env.globals X.mg; rw [I1.ok.glob]; exact I1.mod.glob.keeps up) hm (by show s3.heap.Ns X.env.builtins mb; rw [I1.ok.blt]; exact hb1.keeps up) ((hb2 "int" (by decide)).trans rfl) ?_))
    refine PyProof.Rows.callWith_type1 (spliced_more (wpAny_Name (wpAny_loadName_local hkind hx hn hm3 ?_) hd2) rfl) rfl rfl
    refine spliced_none (call_int_bool ⟨⟨b, _, rfl, rfl⟩, s3.heap, _, rfl, fun _ _ e => e⟩)
  · intro D h' tk ys vs hD hD2 hD3 hlen hP hF hk
    have nD : s1.heap.get? D = none := by
      cases e : s1.heap.get? D with
      | none => rfl
      | some o => rw [Heap.get?_push_of_some _ e] at hD; cases hD
    have k1 : ∀ b u, s1.heap.get? b = some u → h'.get? b = some u := fun b u e => by
      refine hk b u (fun z => ?_) (Heap.get?_push_of_some _ e)
      have z' : b = s1.heap.objs.size := by simpa using z
      rw [z'] at e
      exact absurd (Heap.lt_size e) (Nat.lt_irrefl _)
    have ev : vs = its := by
      refine List.ext_getElem? fun j => ?_
      by_cases hj : j < vs.length
      · have e := hP j vs[j] (by simp [hj])
        rw [List.getElem?_eq_getElem hj]
        simpa using e.symm
      · rw [List.getElem?_eq_none (by omega), List.getElem?_eq_none (by simp at hlen; omega)]
    have ef : vs.filter (fun _ => true) = its := by rw [ev]; simp
    rw [ef] at hF
    have fin : ∀ {bs : List Bool} {its ys : List Value}, Vals (bs.map V.bl) its → Paired (fun v y => ∃ b t, v = Value.bool b ∧ y = .int (if b then 1 else 0) t) its ys → Vals (bs.map fun b => V.int (if b then 1 else 0)) ys := by
      intro bs
      induction bs with
      | nil => intro its ys h1 h2; cases h1; cases h2; exact .nil
      | cons b bs ih =>
        intro its ys h1 h2
        cases h1 with
        | cons r1 t1 =>
          cases h2 with
          | cons r2 t2 =>
            obtain ⟨b', t, e1, e2⟩ := r2
            have r1' : _ = Value.bool b := r1
            rw [r1'] at e1; cases e1
            exact .cons ⟨t, e2⟩ (ih t1 t2)
    obtain ⟨n, eD⟩ := hD3
    have J : Inv X pins σ (upd H1 D (.lst (bs.map fun b => V.int (if b then 1 else 0)))) { s1 with heap := h', toks := tk } := laid_at I1 k1 nD (o := .lst (bs.map fun b => V.int (if b then 1 else 0))) ⟨by simp at hz ⊢; omega, ys.toList, n, fin rv hF, by rw [Array.toArray_toList]; exact eD⟩
    exact ⟨.ref D, _, J, rfl, q D (gone_of I1.hok nD)⟩
end
end BB
set_option Elab.async false
set_option linter.all false
set_option maxRecDepth 100000
set_option autoImplicit false
set_option maxHeartbeats 2000000
/-! Bb10: the def that tells an error, try. -/
namespace BB
open PySem PySem.Spec PyProof.Rows L2 HotX L2H

/-! ### the classes of the errors -/
def erIx : Er → Nat
  | .na => 0
  | .tl => 1
  | .ms => 2
  | .bp => 3
  | .bf _ => 4
def erTx : Er → Str
  | .na => "refused"
  | .tl => "large"
  | .ms => "missing"
  | .bp => "paper"
  | .bf _ => "form"
theorem erIx_lt (e : Er) : erIx e < 5 := by cases e <;> exact of_decide_eq_true rfl
structure ErrAll (K : PySem.W.Frag) (mg : Str → Option Value) (C : Nat → Addr) : Prop where
  g0 : mg "NotAllowed" = some (.ref (C 0))
  g1 : mg "TooLarge" = some (.ref (C 1))
  g2 : mg "Missing" = some (.ref (C 2))
  g3 : mg "BadPaper" = some (.ref (C 3))
  g4 : mg "BadForm" = some (.ref (C 4))
  x : ∀ i, i < 5 → ExcC K (C i)
  kit : ∀ i j, i < 5 → j < 5 → PySem.W.kitOne K (.ref (C i)) (.ref (C j)) = some (decide (i = j))
def erV (C : Nat → Addr) : Er → Value := fun e => .ref (C (erIx e))

section
variable {X : Cx}
theorem cr_isP {a D : Addr} {oe : Obj} (C : ExcC X.K D) (hp : (a, oe) ∈ X.pn) (hz : L2N.Zn (.ref D) none oe) (hf : ∃ vs, oe.data = .fields vs) : CallR X (.builtin "isinstance") (rIsE X.K D a) := by
  intro pins s σ H xs us Q I r h
  obtain ⟨c, cv, b, rfl, hcv, e, q⟩ := h
  cases r with
  | cons rx rr =>
    cases rr with
    | cons rt rr =>
      cases rr
      cases rx
      cases hcv _ rt
      obtain ⟨g, _⟩ := I.pin (a, oe) (List.mem_append_left _ hp)
      obtain ⟨vs, hv⟩ := hf
      have J : PySem.W.InstAt s.heap a oe D none := by
        obtain ⟨oc, od, oda, osl⟩ := oe
        obtain ⟨h1, h2, _⟩ := hz
        dsimp only at h1 h2 hv
        subst h1 h2 hv
        exact ⟨g, rfl, rfl, trivial⟩
      exact PySem.W.kia_one (PySem.W.handS_kitx_exc C.hg C.hk C.hs C.hd C.ha C.hn C.ht C.hm) I.kIn J e (fun z => nomatch z) fun tk => ⟨.bl b, H, I.kept (t' := tk) fun _ _ z => z, rfl, q⟩
end

/-! ### _law_error -/
def tIs (K : PySem.W.Frag) (D a C : Addr) : TE := tCB (rIsE K D a) (tCons (tVar 0) (tCons (tC (.ref C)) tNil))
def t_err (K : PySem.W.Frag) (C : Nat → Addr) (D a : Addr) : TS :=
  tSeq (tAsg (tLst (tCons (tIs K D a (C 0)) (tCons (tIs K D a (C 1)) (tCons (tIs K D a (C 2)) (tCons (tIs K D a (C 3)) (tCons (tIs K D a (C 4)) tNil)))))) (gName 1))
    (tSeq (tIfS (tTest (tOp rNe (tCB (rSum K) (tCons (tInts K 1) tNil)) (tC (.int 1)))) (tRet (tC (.str "odd"))) tNext)
      (tRet (tOp (rIxL K) (tLst (tCons (tC (.str "refused")) (tCons (tC (.str "large")) (tCons (tC (.str "missing")) (tCons (tC (.str "paper")) (tCons (tC (.str "form")) tNil)))))) (tBM K "list" (rIndex K) (tVar 1) (tCons (tC (.bl true)) tNil)))))
theorem read_err {K : PySem.W.Frag} {mg : Str → Option Value} {C : Nat → Addr} (T : ErrAll K mg C) (er : Er) {a : Addr} {H : Hp} {Q : VK} (h : ∀ H', Ex H H' → Q (.str (erTx er)) H') :
    t_err K C (C (erIx er)) a { nx := fun _ H' => Q .non H', rt := Q } (L2.start ["e", "names"] [.ref a]) H := by
  have is : ∀ (j : Nat) (hj : j < 5) (Q : VK), Q (.bl (decide (erIx er = j))) H → tIs K (C (erIx er)) a (C j) (L2.start ["e", "names"] [.ref a]) H Q := fun j hj Q q =>
    ⟨_, rfl, .ref (C j), .ref (C j), decide (erIx er = j), rfl, fun u r => r, T.kit _ _ (erIx_lt er) hj, q⟩
  refine is 0 (by decide) _ (is 1 (by decide) _ (is 2 (by decide) _ (is 3 (by decide) _ (is 4 (by decide) _ ⟨by show 5 ≤ sizeLine; decide, fun p1 hp1 => ?_⟩))))
  have s1 : SqL K (upd H p1 (.lst (List.map V.bl [decide (erIx er = 0), decide (erIx er = 1), decide (erIx er = 2), decide (erIx er = 3), decide (erIx er = 4)]))) p1 (List.map V.bl [decide (erIx er = 0), decide (erIx er = 1), decide (erIx er = 2), decide (erIx er = 3), decide (erIx er = 4)]) := SqL.of upd_same
  refine ⟨p1, _, rfl, s1, fun p2 hp2 => ?_⟩
  refine ⟨p2, [decide (erIx er = 0), decide (erIx er = 1), decide (erIx er = 2), decide (erIx er = 3), decide (erIx er = 4)].map (fun b => if b then 1 else 0), rfl, SqL.of (by rw [upd_same]; simp), ?_⟩
  have one : ([decide (erIx er = 0), decide (erIx er = 1), decide (erIx er = 2), decide (erIx er = 3), decide (erIx er = 4)].map (fun b : Bool => if b then (1 : Int) else 0)).sum = 1 := by cases er <;> rfl
  rw [one]
  refine ⟨rfl, _, rfl, ?_⟩
  simp only [decide_true, Bool.not_true, Bool.false_eq_true, if_false]
  refine ⟨by show 5 ≤ sizeLine; decide, fun p3 hp3 => ⟨.ref p1, rfl, ?_⟩⟩
  have n21 : p1 ≠ p2 := fun z => by rw [← z, upd_same] at hp2; cases hp2
  have n31 : p1 ≠ p3 := fun z => by rw [← z, upd_ne n21, upd_same] at hp3; cases hp3
  have n32 : p2 ≠ p3 := fun z => by rw [← z, upd_same] at hp3; cases hp3
  refine ⟨.inl ⟨rfl, _, SqL.of ((upd_ne n31).trans ((upd_ne n21).trans upd_same))⟩, ?_⟩
  refine ⟨p1, [decide (erIx er = 0), decide (erIx er = 1), decide (erIx er = 2), decide (erIx er = 3), decide (erIx er = 4)].map V.bl, .bl true, erIx er, .bl true, rfl, rfl, SqL.of ((upd_ne n31).trans ((upd_ne n21).trans upd_same)), rfl, rfl, by cases er <;> rfl, rfl, fun m z hm hz => ?_, ?_⟩
  · cases er with
    | na => exact absurd hm (Nat.not_lt_zero _)
    | tl =>
      have : m = 0 := by have : m < 1 := hm; omega
      subst this; cases hz; rfl
    | ms =>
      have : m = 0 ∨ m = 1 := by have : m < 2 := hm; omega
      rcases this with rfl | rfl <;> (cases hz; rfl)
    | bp =>
      have : m = 0 ∨ m = 1 ∨ m = 2 := by have : m < 3 := hm; omega
      rcases this with rfl | rfl | rfl <;> (cases hz; rfl)
    | bf n =>
      have : m = 0 ∨ m = 1 ∨ m = 2 ∨ m = 3 := by have : m < 4 := hm; omega
      rcases this with rfl | rfl | rfl | rfl <;> (cases hz; rfl)
  refine ⟨p3, [.str "refused", .str "large", .str "missing", .str "paper", .str "form"], (erIx er : Nat), .str (erTx er), rfl, rfl, SqL.of upd_same, by cases er <;> rfl, h _ ?_⟩
  exact (Ex.nw hp1).tr ((Ex.nw hp2).tr (Ex.nw hp3))
/-- what the def promises, where p is the error that is handled -/
structure FnE (P : Program) (w : World) (K : PySem.W.Frag) (mg : Str → Option Value) (base : Heap) (T : Er → Value) (k : Nat) (f : Addr) (fd : FuncData) : Prop where
  run : ∀ (er : Er) (A : Around) (outer : List PySem.Env) (s : Shared) (H : Hp) (args : Args) (Q : VK) (p : Addr × Obj), RoomH k A → Hot1 A p → PinOk outer H s p → L2N.Zn (T er) none p.2 → Env0 P w K mg base A outer s H → BindsTo s fd args [("e", .ref p.1)] →
    (∀ H', Ex H H' → Q (.str (erTx er)) H') → codeAny (model P w) A (.call (.ref f) args) (CR (L2N.CX P w) outer P w H s Q fun _ _ _ => False) s
section
variable {P : Program} {w : World} {K : PySem.W.Frag} {mg : Str → Option Value} {base : Heap}
/-- the context of the def's body -/
abbrev hx (P : Program) (w : World) (K : PySem.W.Frag) (mg : Str → Option Value) (base : Heap) (N : List Str) (x : Str) (st : Stmt) (f : Addr) (cdv : Value) (A : Around) (outer : List PySem.Env) (s : Shared) (H : Hp) (p : Addr × Obj) : Cx := cxH (L2N.CX P w) P w K mg base N x (defScope st) f cdv A outer s H (fun _ _ _ => False) p
theorem fne_of {x : Str} {st : Stmt} {f : Addr} {fd : FuncData} {C : Nat → Addr} {k : Nat} (F : Fun K x x st f fd) (Sc : FnScope ["e", "names"] ["e"] (defScope st)) (T : ErrAll K mg C)
    (body : ∀ (er : Er) (cdv : Value) (A : Around) (outer : List PySem.Env) (s : Shared) (H : Hp) (p : Addr × Obj), HotC (hx P w K mg base ["e", "names"] x st f cdv A outer s H p) → p ∈ (hx P w K mg base ["e", "names"] x st f cdv A outer s H p).pn → L2N.Zn (erV C er) none p.2 → (∃ vs, p.2.data = .fields vs) →
      PSs (hx P w K mg base ["e", "names"] x st f cdv A outer s H p) (defBody st) (t_err K C (C (erIx er)) p.1)) : FnE P w K mg base (erV C) (k + 1) f fd := by
  obtain ⟨oc, od, kV, doc, pm, an, cdv, ct, osl, rfl, lk, hcd⟩ := F.ex
  refine ⟨fun er A outer s H args Q p room hot pin zn en bnd want => ?_⟩
  have KX : K.In s.heap := en.mod.kin.keeps fun b o z => (en.bs b o z).1
  have nl : s.heap.NoLimit := en.mod.nolimit.keeps fun b o z => (en.bs b o z).1
  refine codeAny_call_function room.depth (KX _ _ lk) rfl Sc.co Sc.gen rfl (PySem.W.codeRec_of KX hcd) (bnd _ _ _ _ ?_)
  refine wpAny_newFunctionEnv_cells Sc.kind (fun ⟨n, v⟩ hy => (Sc.par n (List.of_mem_zip (l₁ := [Str.ofString "e"]) (l₂ := [Value.ref p.1]) hy).1).elim .inl fun q => .inr ⟨q, PySem.W.cellsFrom_some _ _ _ (.inl q)⟩) fun env he s1 ic => ?_
  subst he
  refine ⟨nl.keeps ic.toInCall.keep, codeAny_func ?_⟩
  have hd : ∃ vs, p.2.data = .fields vs := let ⟨_, vs, e, _⟩ := hot; ⟨vs, e⟩
  have hbd := body er cdv A outer s H p ⟨p, hot, by show p ∈ [p]; simp⟩ (by show p ∈ [p]; simp) zn hd
  refine wpAny_mono (hbd.run [] s1 (L2.start ["e", "names"] [.ref p.1]) H { nx := fun _ H' => Q .non H', rt := Q } (inv_startH Sc pin en rfl (.cons rfl .nil) ic) (read_err T er want)) (fun fl s' hs => ?_) fun _ _ z => z
  cases fl with
  | ret u =>
    obtain ⟨v, σ', H', J, rv, q⟩ := hs
    exact ⟨v, H', J.os, J.bare, J.base, J.hok, rv, q⟩
  | next =>
    obtain ⟨σ', H', J, q⟩ := hs
    exact ⟨.non, H', J.os, J.bare, J.base, J.hok, rfl, q⟩
  | brk => exact hs.elim fun _ z => z.elim fun _ z => z.2.elim
  | cont => exact hs.elim fun _ z => z.elim fun _ z => z.2.elim
end
/-! ### try .. except MindError as e: return _law_error(e) -/
section
variable {X : Cx} {S : Sg} {W : WX} {k : Nat} {f : Addr} {fd : FuncData}
def tSuite (T : Er → Value) (i : Nat) (a : Addr) (cls : Value) (d : Option Addr) : TS := fun D' σ H => (i < σ.length → σ[i]? = some (some (.ref a))) ∧ ∃ er, cls = T er ∧ d = none ∧ ∀ H', Ex H H' → D'.rt (.str (erTx er)) H'
theorem pss_suite {j i : Nat} {x n : Str} {a : Addr} {oe : Obj} {cls : Value} {d : Option Addr} {pn : List (Addr × Obj)} {T : Er → Value} {q1 q2 q3 q4 : Pos} (F : FnE X.prog X.w X.K X.mg X.base T j f fd) (hj : j ≤ k) (room : RoomH k X.A) (bd : Binds X.K fd ["e"] []) (hk : PySem.W.keepIn X.K (.ref f) = true)
    (hz : L2N.Zn cls d oe) (hv : ∃ vs, oe.data = .fields vs) (hg : Gl X x) (hm : X.mg x = some (.ref f)) (hN : X.N[i]? = some n) (hvis : Vis X.env.scope n) (hdb : (x == ("__debug__" : Str)) = false) (hd : (n == ("__debug__" : Str)) = false) (hcd : (n == ("__classdict__" : Str)) = false) :
    PSs (X.suite a ((a, oe) :: pn)) [.Return (some (.Call (.Name x q1) [.Name n q2] [] q3)) q4] (tSuite T i a cls d) := by
  refine pss_one ⟨fun pins s σ H D' I h => ?_⟩
  obtain ⟨hσ', er, rfl, rfl, want⟩ := h
  have hσ := hσ' (by rw [I.len]; exact (List.getElem?_eq_some_iff.mp hN).1)
  refine wpAny_Return_some ?_
  have pe : PE (X.suite a ((a, oe) :: pn)) (.Name n q2) (tVar i) := pe_var hN hvis hd hcd
  refine wpAny_Call_Name_kw (ld_glob I hg hm (PySem.W.callWith_K (h₀ := X.base) I.ok.mod.kin hk (spliced_more (thn (pe.run pins s σ H (fun x H' => x = .ref a ∧ H' = H) I ⟨_, hσ, rfl, rfl⟩) fun u s1 ⟨y, H1, I1, r1, e1, e2⟩ => ?_) rfl) rfl rfl) hdb)
  subst e1 e2
  obtain rfl : u = .ref a := r1
  refine spliced_none ⟨I1.kIn, ?_⟩
  have P1 := I1.pin (a, oe) (List.mem_append_left _ List.mem_cons_self)
  have hot : Hot1 (X.suite a ((a, oe) :: pn)).A (a, oe) := by
    obtain ⟨vs, e⟩ := hv
    exact ⟨rfl, vs, e, hz.2.2 vs e⟩
  have pin : PinOk (X.suite a ((a, oe) :: pn)).stack H1 s1 (a, oe) := ⟨P1.1, P1.2.1, fun hm => (List.mem_cons.mp (I1.stkSub a hm)).elim P1.2.2.1 P1.2.2.2.1, P1.2.2.2.2⟩
  have bn : BindsTo s1 fd ⟨[.ref a], []⟩ [("e", .ref a)] := by
    have z := bd s1 [.ref a] I1.kIn rfl
    exact z
  refine wpAny_call (codeAny_mono (F.run er (X.suite a ((a, oe) :: pn)).A X.stack s1 H1 ⟨[.ref a], []⟩ (fun v H' => v = .str (erTx er) ∧ Ex H1 H') (a, oe) ⟨(room.mono hj).dp, (room.mono hj).un⟩ hot pin hz I1.env0 bn fun H' x => ⟨rfl, x⟩) fun r s' hq => ?_)
  cases r with
  | error u =>
    exact (L2N.XE.of_call (W := fun _ _ _ _ => False) (σ := σ) I1 (fun _ _ _ z => z) hq).elim fun _ z => by
      obtain ⟨_, _, _, _, _, _, _, _, _, _, _, _, _, _, _, w⟩ := z
      exact w.elim
  | ok fl =>
    cases fl with
    | ret u =>
      obtain ⟨y, H2, I2, r2, e1, x⟩ : EP _ pins σ _ u s' := I1.after hq
      exact ⟨y, σ, H2, I2, r2, by rw [e1]; exact want H2 x⟩
    | _ => exact False.elim hq
def stry (fb : SW) : SW := fun δ b R => fb δ b fun o b' => match o with
  | .er e => R (.rt (.str (erTx e))) b'
  | o => R o b'
theorem sx_try {j i : Nat} {x n c : Str} {cv : Value} {body : List Stmt} {fb : SW} {np pos pos' q1 q2 q3 q4 : Pos} (G : Cxt X S W k) (F : FnE X.prog X.w X.K X.mg X.base S.cls j f fd) (hj : j ≤ k) (bd : Binds X.K fd ["e"] []) (hk : PySem.W.keepIn X.K (.ref f) = true)
    (hm : X.mg x = some (.ref f)) (hcm : X.mg c = some cv) (hex : ∀ er, PySem.W.exmOne X.K (S.cls er) cv = some true)
    (hb : ∀ (W' : WX) (pn : List (Addr × Obj)) (xe : Value → Shared → Prop), Cxt (X.tr pn xe) S W' k → SSX (X.tr pn xe) S W' body fb)
    (hN : X.N[i]? = some n) (hln : X.env.kindOf n = some .local)
    (hg : Gl X x := by rfl) (hgc : Gl X c := by rfl) (hs : X.stack = X.env :: X.outer := by rfl) (hf : X.env.frame = some X.env.locals := by rfl)
    (hdb : (x == ("__debug__" : Str)) = false := by decide) (hdc : (c == ("__debug__" : Str)) = false := by decide) (hd : (n == ("__debug__" : Str)) = false := by decide) (hcd : (n == ("__classdict__" : Str)) = false := by decide) :
    SX X S W (.Try body [.ExceptHandler (some (.Name c np)) (some n) [.Return (some (.Call (.Name x q1) [.Name n q2] [] q3)) q4] pos'] [] [] pos) (stry fb) := by
  refine ⟨_, L2N.ps_try_as (i := i) (c := cv) (ts := tSuite S.cls i) (tb := fun W' D' σ H => ∀ (pn : List (Addr × Obj)) (xe : Value → Shared → Prop), L2N.Takes (X.tr pn xe) W' → PassesOwn (model X.prog X.w) X.A X.env xe → ∃ t, PSs (X.tr pn xe) body t ∧ t D' σ H) (Wout := W) hs hf G.nd hN hln ⟨hgc, hdc, .inl hcm⟩ G.tk
    (fun W' pn xe tk ps => ⟨fun pins s σ H D' I h => ?_⟩) (fun a oe cls d pn hz hv => pss_suite F hj (roomH_of G.room) bd hk hz hv hg hm hN (.inl hln) hdb hd hcd), fun H0 δ σ F0 H b R D' rel hf P pn xe tk ps => ?_⟩
  · obtain ⟨t, p, q⟩ := h pn xe tk ps
    exact p.run pins s σ H D' I q
  · obtain ⟨t, p, q⟩ := hb _ pn xe ⟨G.kS, G.calm, G.nd, G.room, G.gd, tk, ps⟩
    refine ⟨t, p, q H0 δ σ F0 H b _ D' rel hf ⟨P.nx, P.rt, P.bk, P.ct, fun e b' r δ' σ' F' H' rel' ex => ⟨true, hex e, fun _ a na => ⟨?_, e, rfl, rfl, fun H2 x2 => ?_⟩, fun z => nomatch z⟩⟩⟩
    · intro hl
      rw [List.getElem?_set_self (by simpa using hl)]
    · exact P.rt _ b' r (.str (erTx e)) δ' σ' F' H2 (rel'.go Ex.rfl' (rel'.sub.tr x2) (Fr.of x2) ⟨rel'.sto.out, rel'.sto.nu, fun on => by
        obtain ⟨g, g0, g1, e1⟩ := rel'.sto.at_ on
        exact ⟨g, g0, g1, x2 _ _ e1⟩, rel'.sto.some_⟩ fun a o e => .inl e) ex (.str _)
end
end BB
set_option Elab.async false
set_option linter.all false
set_option maxRecDepth 100000
set_option autoImplicit false
set_option maxHeartbeats 2000000
/-! Bb11: the law itself. -/
namespace BB
open PySem PySem.Spec PyProof.Rows L2 HotX L2H

/-! ### the end -/
/-- what the law's def promises -/
def spLaw (K : PySem.W.Frag) (n : Nat) : Sp := fun vs H Q _ => ∃ (a : Addr) (ns : List Int), vs = [.ref a] ∧ ns.length ≤ n ∧ (∀ H', Ex H H' → SqL K H' a (ns.map V.int)) ∧ ∀ H', Q (.bl true) H'
theorem sql_mono {K : PySem.W.Frag} {H H' : Hp} {a : Addr} {xs : List V} (h : SqL K H a xs) (x : Ex H H') : SqL K H' a xs := by
  rcases h with h | h
  · refine .inl ?_
    rcases h with e | ⟨o, e⟩
    · exact .inl (x _ _ e)
    · exact .inr ⟨o, x _ _ e⟩
  · exact .inr h
section
variable {P : Program} {w : World} {K : PySem.W.Frag} {mg mb : Str → Option Value}
theorem law_callG {k n : Nat} {fa a : Addr} {fd : FuncData} {x : Str} {s : Shared} {vs : List Value} {ns : List Int} (kin : K.In s.heap) (hG : s.heap.Ns mainGlobals mg) (hB : s.heap.Ns builtinsNs mb) (boot : ∀ x : Str, x ≠ "__name__" → mb x = bootBuiltins x) (lim : s.heap.NoLimit) (gens : s.gens = #[])
    (at_ : s.heap.get? a = some { cls := .type "list", data := .seq vs.toArray }) (iv : IntsAre vs ns) (few : ns.length ≤ n) (small : n ≤ sizeLine) (room : Room k callerA) (F : ∀ base : Heap, K.In base → base.Ns mainGlobals mg → FnG P w K mg base k fa fd [x] (spLaw K n)) (bnd : ∀ (s : Shared) (u : Value), BindsTo s fd ⟨[u], []⟩ [(x, u)]) :
    codeAny (model P w) callerA (.call (.ref fa) ⟨[.ref a], []⟩) (fun r s' => r = .ok (.ret (.bool true)) ∧ OldK s.heap s'.heap ∧ s'.os = s.os ∧ AllBare s'.gens) s := by
  have rv := vals_ints iv
  have lv := iv.length
  obtain ⟨H, hH, one⟩ : ∃ H : Hp, (∀ b u, H b = some u → b = a ∧ K.lookup a = none ∧ u = .frz { cls := .type "list", data := .seq vs.toArray } (.lst (ns.map V.int))) ∧ (K.lookup a = none → H a = some (.frz { cls := .type "list", data := .seq vs.toArray } (.lst (ns.map V.int)))) := by
    cases q : K.lookup a with
    | some o => exact ⟨fun _ => none, fun b u e => (nomatch e), fun e => nomatch e⟩
    | none =>
      refine ⟨fun b => if b = a then some (.frz { cls := .type "list", data := .seq vs.toArray } (.lst (ns.map V.int))) else none, fun b u e => ?_, fun _ => if_pos rfl⟩
      by_cases z : b = a
      · refine ⟨z, rfl, ?_⟩
        have e' := (if_pos z).symm.trans e
        cases e'; rfl
      · have e' := (if_neg z).symm.trans e
        cases e'
  have ok : HOk P w H s.heap := fun b u e => by
    obtain ⟨rfl, _, rfl⟩ := hH b u e
    exact ⟨at_, by rw [List.length_map]; omega, vs, _, rv, at_⟩
  have script : SqL K H a (ns.map V.int) := by
    cases q : K.lookup a with
    | none => exact .inl (.inr ⟨_, one q⟩)
    | some o =>
      have e := kin a o q
      rw [at_] at e; cases e
      exact .inr ⟨_, vs.toArray, _, q, rfl, rfl, rfl, by rw [List.size_toArray, lv]; omega, by simpa using rv⟩
  have below : ∀ {b : Addr} {m : Str → Option Value}, s.heap.Ns b m → (hidT s.heap H).Ns b m := fun {b m} ⟨o, es, ep, e, d, r⟩ => by
    refine ⟨o, es, ep, hidT_get e ?_, d, r⟩
    cases q : H b with
    | none => rfl
    | some u =>
      obtain ⟨rfl, _⟩ := hH b u q
      rw [at_] at e; cases e
      cases d
  have kin' : K.In (hidT s.heap H) := fun b o e => by
    refine hidT_get (kin b o e) ?_
    cases q : H b with
    | none => rfl
    | some u =>
      obtain ⟨rfl, n, _⟩ := hH b u q
      rw [n] at e; cases e
  have md : Mod K mg (hidT s.heap H) := ⟨kin', below hG, ⟨mb, below hB, boot⟩, by
    obtain ⟨mc, l1, l2⟩ := lim
    exact ⟨mc, below l1, l2⟩⟩
  have none_in : ∀ b : Addr, b ∉ ([] : List Addr) := fun b z => nomatch z
  have en : Env0 P w K mg (hidT s.heap H) callerA [] s H := ⟨rfl, md, fun b o e => of_hidT e, Nat.le_of_eq (hidT_size _ _), trivial, fun b z => absurd (show b ∈ ([] : List Addr) from z) (none_in b), ok, .of_eq gens⟩
  refine codeAny_mono ((F _ kin' (below hG)).run callerA [] s H ⟨[.ref a], []⟩ [.ref a] [.ref a] (fun v _ => v = .bl true) (fun _ _ _ => False) room rfl en (bnd s (.ref a)) (.cons rfl .nil) ⟨a, ns, rfl, few, fun H' y => sql_mono script y, fun _ => rfl⟩) fun r s' got => ?_
  cases r with
  | error e =>
    obtain ⟨_, _, _, _, _, _, _, _, _, _, _, _, _, _, z⟩ : L2N.CX P w [] H s (fun _ _ _ => False) e s' := got
  | ok fl =>
    cases fl with
    | ret u =>
      obtain ⟨v, H', os, bare, un, hok', ru, rfl⟩ := got
      obtain rfl : u = Value.bool true := ru
      refine ⟨rfl, OldK.of_keep fun b o e => ?_, os, bare⟩
      cases q : H b with
      | none => exact un.keep b o e q (none_in b) (none_in b)
      | some u =>
        obtain ⟨rfl, _, rfl⟩ := hH b u q
        obtain ⟨e2, _⟩ := hok' b _ (un.frzs b _ _ q)
        rw [at_] at e; cases e
        exact e2
    | next => exact False.elim got
    | brk => exact False.elim got
    | cont => exact False.elim got
end
/-! ### the law's def -/
def numsOk (ns : List Int) : Prop := 0 < ns.length ∧ ns.length ≤ 10000 ∧ ∀ n ∈ ns, 0 ≤ n ∧ n < 2000000000
/-- _law_stream: some numbers -/
def specStream : Spec := fun cs b R => ∃ ns : List Int, cs = [.ro ns] ∧ ns.length ≤ 63 ∧ ∀ ms : List Int, numsOk ms → R (.ok (.list (ms.map PyData.int))) b
/-- a canonical reading of statements -/
def cns (X : Cx) (st : List Stmt) : TS := fun D' σ H => ∃ t, PSs X st t ∧ t D' σ H
theorem pss_cns {X : Cx} {st : List Stmt} : PSs X st (cns X st) := ⟨fun pins s σ H D' I ⟨t, p, q⟩ => p.run pins s σ H D' I q⟩
/-- how much a law may draw -/
def lawDraws : Nat := 100000000000000000
/-- the law's names behind its first statement -/
def lawEnv (m : Nat) (ns : List Int) : Env := some (.ro ns) :: some .st :: List.replicate m none
theorem law_of {P : Program} {w : World} {K : PySem.W.Frag} {mg : Str → Option Value} {base : Heap} {T : Er → Value} {x s1 y : Str} {st : Stmt} {f f1 : Addr} {fd fd1 : FuncData} {N1 : List Str} {k j : Nat} {rest : List Stmt} {fb : SW} {p1 p2 p3 p4 p5 p6 p7 : Pos} {j0 : Nat}
    (F : Fun K x x st f fd) (Sc : FnScope (s1 :: y :: N1) [s1] (defScope st)) (T1 : Df P w K mg base T j "_law_stream" f1 fd1 ["script"] specStream) (hj : j ≤ k) (hst : defBody st = .Assign [.Name y p1] (.List [.Call (.Name "_law_stream" p2) [.Name s1 p3] [] p4, .Constant (.int 0) j0 p5] p6) p7 :: rest)
    (hy : (defScope st).names.lookup y = some .local ∨ (defScope st).names.lookup y = some .cell) (hs1 : (defScope st).names.lookup s1 = some .local ∨ (defScope st).names.lookup s1 = some .cell) (hg : (defScope st).names.lookup ("_law_stream" : Str) = some NameKind.globalImplicit)
    (hd : (s1 == ("__debug__" : Str)) = false) (hcd : (s1 == ("__classdict__" : Str)) = false)
    (body : ∀ (S : Sg) (cdv : Value) (A : Around) (outer : List PySem.Env) (s : Shared) (H : Hp) (E : XK), S.cls = T → S.on = true → Cxt (bx P w K mg base (s1 :: y :: N1) x st f cdv A outer s H E) S (bw E) k → SSX (bx P w K mg base (s1 :: y :: N1) x st f cdv A outer s H E) S (bw E) rest fb)
    (run : ∀ ns : List Int, ns.length ≤ 63 → fb (lawEnv N1.length ns) lawDraws fun o _ => o = .rt (.bool true)) : FnG P w K mg base (k + 1) f fd [s1] (spLaw K 63) := by
  refine fng_of F Sc (fun vs H Q E ⟨a, ns, e, _⟩ => by rw [e]; rfl) fun cdv A outer s H vs Q E room gd h => ?_
  obtain ⟨a, ns, rfl, few, sq, won⟩ := h
  have G : ∀ S : Sg, S.K = K → Cxt (bx P w K mg base (s1 :: y :: N1) x st f cdv A outer s H E) S (bw E) k := fun S hS => ⟨hS, rfl, Sc.nd, room, gd, L2N.takes_of rfl rfl rfl rfl, passes_of rfl⟩
  have S0 : ∃ S0 : Sg, S0.K = K ∧ S0.cls = T ∧ S0.on = false := ⟨⟨K, T, false, 0, 0, []⟩, rfl, rfl, rfl⟩
  obtain ⟨S0, hK, hT, hon⟩ := S0
  subst hT
  have off : ∀ {α : Prop}, S0.on = true → α := fun z => by rw [hon] at z; cases z
  obtain ⟨te, pe, qe⟩ : EF (bx P w K mg base (s1 :: y :: N1) x st f cdv A outer s H E) S0 (bw E) (.List [.Call (.Name "_law_stream" p2) [.Name s1 p3] [] p4, .Constant (.int 0) j0 p5] p6) _ :=
    ef_lst (lx_cons (ex_call (G S0 hK) T1 (fun b R cs ⟨ns, e, _⟩ => by rw [e]; rfl) hj (ax_cons (ec_var (pe_var (i := 0) rfl (hs1.elim .inl fun z => .inr (.inl z)) hd hcd)) ax_nil rfl) hg rfl rfl rfl) (lx_cons ex_int lx_nil rfl) rfl)
  refine ⟨_, by rw [hst]; exact pss_cons (ps_asg pe (pg_name (i := 1) Sc.nd rfl hy (.inl rfl))) pss_cns, ?_⟩
  show te (L2.start (s1 :: y :: N1) [.ref a]) H fun v H1 => cns _ rest _ ((L2.start (s1 :: y :: N1) [.ref a]).set 1 (some v)) H1
  have ex0 : Ex H H := Ex.rfl'
  have so0 : StOk S0 H H 0 := ⟨off, off, off, off⟩
  have rel0 : Rel S0 ⟨H, H⟩ (startE (s1 :: y :: N1).length [.ro ns]) (L2.start (s1 :: y :: N1) [.ref a]) H H 0 := rel_start ex0 so0 (.cons ⟨a, rfl, fun H' x => by rw [hK]; exact sq H' x⟩ .nil)
  refine qe ⟨H, H⟩ _ _ H H 0 (fun r _ => ∃ ms : List Int, numsOk ms ∧ r = .ok [.list (ms.map PyData.int), .int 0]) _ rel0 ?_ ⟨fun ds b' r v F1 H1 rel1 x1 g1 o => ?_, fun e b' r => ?_⟩
  · exact ⟨ns, rfl, few, fun ms hm => ⟨by show 2 ≤ sizeLine; decide, ms, hm, rfl⟩⟩
  · obtain ⟨ms, hm, e⟩ := r
    obtain rfl : ds = _ := Except.ok.inj e
    obtain ⟨p, vs, rfl, n0, hp, nf, hv⟩ := o
    obtain ⟨nu, rfl, hnu⟩ : ∃ nu, vs = [.ref nu, .int 0] ∧ F1 nu = some (.lst (ms.map V.int)) := by
      cases hv with
      | cons v1 v2 =>
        cases v2 with
        | cons v3 v4 =>
          cases v4
          cases v3
          cases v1 with
          | lst e1 e2 =>
            rw [e2.toInts] at e1
            exact ⟨_, rfl, e1⟩
    obtain ⟨t, pt, qt⟩ := body ⟨K, S0.cls, true, p, nu, ms⟩ cdv A outer s H E rfl rfl (G _ rfl)
    refine ⟨t, pt, ?_⟩
    have so1 : StOk ⟨K, S0.cls, true, p, nu, ms⟩ F1 H1 lawDraws := ⟨fun _ => nf, fun _ => hnu, fun _ => ⟨0, Int.le_refl _, by decide, hp⟩, fun _ => hm⟩
    have h1 : ∀ i c, (lawEnv N1.length ns)[i]? = some (some c) → (i = 0 ∧ c = .ro ns) ∨ (i = 1 ∧ c = .st) := fun i c e => by
      match i with
      | 0 => exact .inl ⟨rfl, by cases e; rfl⟩
      | 1 => exact .inr ⟨rfl, by cases e; rfl⟩
      | i + 2 =>
        have e' : (List.replicate N1.length (none : Option Cell))[i]? = some (some c) := e
        rw [List.getElem?_replicate] at e'
        split at e' <;> cases e'
    have rel : Rel ⟨K, S0.cls, true, p, nu, ms⟩ ⟨F1, H1⟩ (lawEnv N1.length ns) ((L2.start (s1 :: y :: N1) [.ref a]).set 1 (some (.ref p))) F1 H1 lawDraws := by
      refine ⟨by simp [L2.start, lawEnv], rel1.sub, Fr.rfl', fun a o e => .inl e, so1, fun i c e => ?_, fun i j c c' ne e1 e2 o1 o2 => ?_⟩
      · rcases h1 i c e with ⟨rfl, rfl⟩ | ⟨rfl, rfl⟩
        · exact ⟨.ref a, rfl, a, rfl, fun H' x => sq H' (x1.tr x)⟩
        · exact ⟨.ref p, rfl, rfl, rfl⟩
      · rcases h1 i c e1 with ⟨rfl, rfl⟩ | ⟨rfl, rfl⟩ <;> cases o1
    refine qt ⟨F1, H1⟩ _ _ F1 H1 lawDraws _ _ rel (run ns few) ⟨fun _ _ z => (nomatch z), fun d b' z v δ' σ' F' H' _ _ hd => ?_, fun _ _ z => (nomatch z), fun _ _ z => (nomatch z), fun _ _ z => (nomatch z)⟩
    obtain rfl : d = .bool true := by cases z; rfl
    cases hd
    exact won H'
  · obtain ⟨ms, _, e⟩ := r
    cases e
theorem walk_G {l : PySem.W.OpenLaw} {n k : Nat} {q : Program} {loose : List Str} {XP : (Str → Option Value) → Heap → Prop} {YP : World → Heap → Prop} {d : DefRec} {K : Params → PySem.W.Frag} {x : Str}
    (hn : l.most = some n) (hn2 : n ≤ sizeLine) (hdf : d.params.defaults = []) (hr : Room k callerA) (hY : ∀ (w : World) (h : Heap), YP w h → (K w.params).In h)
    (F : ∀ (w : World) (mg : Str → Option Value) (fa : Addr) (h : Heap), (K w.params).In h → h.Ns mainGlobals mg → mg d.name = some (.ref fa) → ∃ fd : FuncData, (∀ (s : Shared) (u : Value), BindsTo s fd ⟨[u], []⟩ [(x, u)]) ∧
      ∀ base : Heap, (K w.params).In base → base.Ns mainGlobals mg → FnG l.prog w (K w.params) mg base k fa fd [x] (spLaw (K w.params) n)) :
    PySem.W.WalkO q loose XP YP l.row.toRowW d [] (fun f vs => PySem.call f vs) := by
  refine Att.attach_call hn hdf fun w s₀ s₁ mg mb fa o pm cd doc a vs ns G Y ho hd hcd hmg hobj hints hlen hg => ?_
  obtain ⟨fd, hb, hF⟩ := F w mg fa _ (hY w _ Y) G.T.g hmg
  exact law_callG (hY w _ Y) G.T.g G.T.b G.T.builtins G.T.nolimit hg hobj hints hlen hn2 hr hF hb
end BB
set_option Elab.async false
set_option linter.all false
set_option maxRecDepth 100000
set_option autoImplicit false
set_option maxHeartbeats 2000000
/-! Bb12: more of the language. -/
namespace BB
open PySem PySem.Spec PyProof.Rows L2 HotX L2H

/-! ### enumerate of a tuple -/
section
variable {prog : Program} {w : World} {A : Around} {E : Value → Shared → Prop} {s : Shared}
theorem next_tup_item {it l : Addr} {i : Nat} {items : Array Value} {x : Value} {Q : Value → Shared → Prop} (hi : s.heap.IsTupleIter it l i) (hl : s.heap.IsTuple l items) (hx : items[i]? = some x)
    (hQ : ∀ h', h'.IsTupleIter it l (i + 1) → Heap.SameBut it s.heap h' → Q x { s with heap := h' }) : wpAny (model prog w) A (Builtin.SmallTypes.nextOf (.ref it)) Q E s := by
  obtain ⟨oi, gi, ci, di⟩ := id hi
  obtain ⟨ol, gl, _, nl, dl⟩ := hl
  unfold Builtin.SmallTypes.nextOf
  refine wpAny_bind (wpAny_callSpecial?_slot (name := Str.ofString "__next__") hi.typeIs F.slot_tuple_iterator_next (wpAny_call_entry F.slot_tuple_iterator_next hi.typeIs F.entry_tuple_iterator_next ?_ (F.args_tuple_iterator_next_1 _)))
  show wpAny _ _ (field (.ref it) 0 >>= _) _ _ s
  refine wpAny_bind (wpAny_field gi di (x := .ref l) rfl ?_)
  show wpAny _ _ (if (Value.ref l == Value.none) = true then _ else _) _ _ s
  rw [if_neg (show ¬ ((Value.ref l == Value.none) = true) from Bool.false_ne_true)]
  show wpAny _ _ (field (.ref it) 1 >>= _) _ _ s
  refine wpAny_bind (wpAny_field gi di (x := .int i 0) rfl ?_)
  show wpAny _ _ (seqItems? (.ref l) >>= _) _ _ s
  refine wpAny_bind (wpAny_seqItems gl dl ?_)
  simp only [Int.toNat_natCast, hx]
  refine wpAny_bind (wpAny_setField gi di (by simp) (wpAny_pure ⟨x, rfl, wpAny_pure (hQ _ ?_ (Heap.SameBut.update ..))⟩))
  exact ⟨_, Heap.get?_update_self _ gi (Obj.isFreed_of_fields (Obj.data_mapFields di _)), (Obj.cls_mapFields ..).trans ci, by rw [Obj.data_mapFields di]; simp [rawInt]⟩
theorem next_tup_end {it l : Addr} {i : Nat} {items : Array Value} {Q : Value → Shared → Prop} (hh : A.handled = none) (hi : s.heap.IsTupleIter it l i) (hl : s.heap.IsTuple l items) (hx : items[i]? = none)
    (hE : ∀ h' e, Heap.ExtBut it s.heap h' → (∃ o, h'.get? e = some o ∧ o.cls = .type "StopIteration") → E (.ref e) { s with heap := h' }) : wpAny (model prog w) A (Builtin.SmallTypes.nextOf (.ref it)) Q E s := by
  obtain ⟨oi, gi, ci, di⟩ := id hi
  obtain ⟨ol, gl, _, nl, dl⟩ := hl
  unfold Builtin.SmallTypes.nextOf
  refine wpAny_bind (wpAny_callSpecial?_slot (name := Str.ofString "__next__") hi.typeIs F.slot_tuple_iterator_next (wpAny_call_entry F.slot_tuple_iterator_next hi.typeIs F.entry_tuple_iterator_next ?_ (F.args_tuple_iterator_next_1 _)))
  show wpAny _ _ (field (.ref it) 0 >>= _) _ _ s
  refine wpAny_bind (wpAny_field gi di (x := .ref l) rfl ?_)
  show wpAny _ _ (if (Value.ref l == Value.none) = true then _ else _) _ _ s
  rw [if_neg (show ¬ ((Value.ref l == Value.none) = true) from Bool.false_ne_true)]
  show wpAny _ _ (field (.ref it) 1 >>= _) _ _ s
  refine wpAny_bind (wpAny_field gi di (x := .int i 0) rfl ?_)
  show wpAny _ _ (seqItems? (.ref l) >>= _) _ _ s
  refine wpAny_bind (wpAny_seqItems gl dl ?_)
  simp only [Int.toNat_natCast, hx]
  refine wpAny_bind (wpAny_rule (wpAny_bind (wpAny_setField gi di (by simp) ?_)))
  show wpAny _ _ (newExc (.type "StopIteration") [] >>= _) _ _ _
  refine wpAny_bind ?_
  simp only [newExc, newTuple]
  refine wpAny_bind (wpAny_newObj_type ?_ (by size_fits))
  refine wpAny_bind (m := firstArgMember _ _) (wpAny_of_eq (a := Value.none) (by first | rfl | (simp only [firstArgMember]; rfl)) ?_)
  refine wpAny_newObj_type ?_ (by size_fits)
  simp only [raiseNew]
  refine wpAny_bind (wpAny_handled ?_)
  first | rw [show A.in1.handled = none from hh] | rw [hh]
  refine wpAny_bind (wpAny_pure (wpAny_throw ?_))
  exact hE _ _ (((Heap.SameBut.update ..).extBut.push _).push _) ⟨_, Heap.get?_push_size _ rfl, rfl⟩
theorem draws_tup (hh : A.handled = none) (it l : Addr) (hne : l ≠ it) (items : Array Value) : Draws prog w A it [it, l] items.size (fun i v => items[i]? = some v) (fun i h => h.IsTupleIter it l i ∧ h.IsTuple l items) where
  live := fun _ _ st => let ⟨o, ho, _⟩ := st.1; ⟨o, ho⟩
  frame := fun _ _ _ st hk => ⟨st.1.at fun o e => hk it (by simp) o e, st.2.at fun o e => hk l (by simp) o e⟩
  item := fun i s Q E hi st hQ => by
    refine next_tup_item st.1 st.2 (x := items[i]) (by simp [hi]) fun h' hit' hs' => ?_
    exact hQ _ h' s.toks (by simp [hi]) ⟨hit', st.2.extBut hs'.extBut hne⟩ hs'
  done := fun s Q E st hE => next_tup_end hh st.1 st.2 (by simp) hE
theorem meets_enum_tup (l : Addr) (items : Array Value) (n : Nat) (dct : Option Addr) (sl : Array (Option Value)) :
    Meets (Builtin.«enumerate.__new__» ⟨[.type "enumerate", .ref l], []⟩) (fun _ R s => s.heap.get? l = some { cls := .type "tuple", dict := dct, data := .seq items n, slots := sl } ∧
      R (.ok (.ret (.ref (s.heap.push { cls := .type "tuple_iterator", data := .fields #[.ref l, .int 0 0] }).objs.size)))
        { s with heap := (s.heap.push { cls := .type "tuple_iterator", data := .fields #[.ref l, .int 0 0] }).push { cls := .type "enumerate", data := .fields #[.none, .bool false, .ref s.heap.objs.size, rawInt 0, .none, .none] } }) :=
  .of_wp fun prog w A R s h => by
    obtain ⟨hp, g, d, tk, os⟩ := s; obtain ⟨hl, h⟩ := h
    have hsub := sub_enumerate
    have hL : Heap.IsTuple (Shared.heap ⟨hp, g, d, tk, os⟩) l items := ⟨_, hl, rfl, n, rfl⟩
    wp_walk using AutoSeq1.wpAny_loadPart' hl
    refine wpAny_stack_any fun st => wpAny_pure ?_
    split
    · rename_i c _ _ _ _ _
      cases (c == Value.type "enumerate")
      · wp_walk using AutoSeq1.wpAny_loadPart' hl, wpAny_pyIter_tuple hL
        exact ⟨_, rfl, h⟩
      · wp_walk using AutoSeq1.wpAny_loadPart' hl, wpAny_pyIter_tuple hL
        exact ⟨_, rfl, h⟩
    · wp_walk using AutoSeq1.wpAny_loadPart' hl, wpAny_pyIter_tuple hL
      exact ⟨_, rfl, h⟩
theorem call_enum_tup {l : Addr} {items : Array Value} {Q : Value → Shared → Prop} (hL : s.heap.IsTuple l items)
    (h : ∀ h', IsEnum h' (s.heap.objs.size + 1) s.heap.objs.size 0 .none → h'.IsTupleIter s.heap.objs.size l 0 → (∀ b o, s.heap.get? b = some o → h'.get? b = some o) → Q (.ref (s.heap.objs.size + 1)) { s with heap := h' }) :
    wpAny (model prog w) A (call (.type "enumerate") [.ref l]) Q E s := by
  obtain ⟨⟨c, dct, dt, sl⟩, hl, hc, n, hd⟩ := hL
  replace hc : c = .type "tuple" := hc
  replace hd : dt = .seq items n := hd
  subst hc hd
  refine callType_new F.called_enumerate (by decide) (F.typeCall_enumerate_1 _) (F.newCall_enumerate_1 _) (fun obj => F.args_object_init_2 obj _) F.entry_enumerate_new (meets_enum_tup l items n dct sl) ⟨hl, ?_⟩
  have hz : (s.heap.push { cls := .type "tuple_iterator", data := .fields #[.ref l, .int 0 0] }).objs.size = s.heap.objs.size + 1 := Heap.size_push ..
  show _ ∧ _
  rw [hz]
  have he : IsEnum ((s.heap.push { cls := .type "tuple_iterator", data := .fields #[.ref l, .int 0 0] }).push { cls := .type "enumerate", data := .fields #[.none, .bool false, .ref s.heap.objs.size, rawInt 0, .none, .none] }) (s.heap.objs.size + 1) s.heap.objs.size 0 .none := by
    have := Heap.get?_push_size (s.heap.push { cls := .type "tuple_iterator", data := .fields #[.ref l, .int 0 0] }) (o := { cls := .type "enumerate", data := .fields #[.none, .bool false, .ref s.heap.objs.size, rawInt 0, .none, .none] }) rfl
    rw [hz] at this; exact this
  exact ⟨⟨_, he, rfl⟩, h _ he ⟨_, Heap.get?_push_of_some _ (Heap.get?_push_size _ rfl), rfl, rfl⟩ fun b o x => Heap.get?_push_of_some _ (Heap.get?_push_of_some _ x)⟩
end
/-- the tuple at a, each item in a new pair -/
def ItE (K : PySem.W.Frag) (a : Addr) : It :=
  ⟨fun i H => ∃ (xs : List V) (x : V), SqT K H a xs ∧ xs[i]? = some x, fun i H v H' => ∃ T x, v = .ref T ∧ H T = none ∧ H' = upd H T (.tup [.int (i : Nat), x]) ∧ ∀ xs, SqT K H a xs → xs[i]? = some x, fun i H => ∃ xs : List V, SqT K H a xs ∧ xs.length = i⟩
theorem turn_enumT {P : Program} {w : World} {K : PySem.W.Frag} {elts : List Expr} {kk : Nat} {tpos : Pos} (a e it : Addr) (hai : a ≠ it) (hae : a ≠ e) :
    Turn P w K (.Tuple elts kk tpos) (ItE K a) [e, it] e (fun i h => (∃ old, IsEnum h e it ((i : Nat) : Int) old) ∧ h.IsTupleIter it a i ∧ e ≠ it) where
  mem := by simp
  obj := fun i h st b hb => by
    obtain ⟨⟨old, he⟩, ⟨o, ho, hc, hd⟩, _⟩ := st
    have e' : b = e ∨ b = it := by simpa using hb
    rcases e' with z | z
    · rw [z]; exact ⟨_, he, fun v q => nomatch q⟩
    · rw [z]; exact ⟨o, ho, fun v q => by rw [hd] at q; cases q⟩
  keep := fun i h h' st k => let ⟨⟨old, he⟩, hi, hne⟩ := st; ⟨⟨old, k e (by simp) _ he⟩, hi.at fun o q => k it (by simp) o q, hne⟩
  item := by
    intro X hP hw hK hc i pins s σ H E I hf st hg
    subst hP hw hK
    obtain ⟨⟨old, he⟩, hit, hne⟩ := st
    obtain ⟨xs, x, hq, hx⟩ := hg
    obtain ⟨its, rv, p, hz⟩ := I.tuple hq
    obtain ⟨u, hu, ru⟩ := rv.get hx
    have hel : e < s.heap.objs.size := Heap.lt_size he
    have hil : it < s.heap.objs.size := by obtain ⟨_, q, _⟩ := hit; exact Heap.lt_size q
    have lt : i < its.toArray.size := by simpa using (List.getElem?_eq_some_iff.mp hu).1
    refine wpAny_pyNext_enum_itemD (draws_tup (A := X.A.in1) (I.ok.hd hc) it a hai its.toArray) he ⟨hit, p⟩ lt hne (by simp [hne, Ne.symm hae]) fun x' h' tk hx' ho st' hT _ hk => ?_
    have eu : x' = u := by
      have z : its[i]? = some x' := by simpa using hx'
      rw [hu] at z; exact (Option.some.inj z).symm
    subst eu
    refine ⟨_, rfl, wpAny_letOwnedTupleGo_enum (s := { s with heap := h', toks := tk + 1 }) ho fun h'' he' sb => ?_⟩
    have hT2 : h''.get? s.heap.objs.size = some { cls := .type "tuple", data := .seq #[.int i tk, x'] } := (sb.2 _ (Nat.ne_of_gt hel)).trans hT
    have new : ObjOk X.prog X.w (upd H s.heap.objs.size (.tup [.int (i : Nat), x])) h'' s.heap.objs.size (.tup [.int (i : Nat), x]) :=
      ⟨by show 2 ≤ sizeLine; decide, [.int i tk, x'], .cons ⟨_, rfl⟩ (.cons ru .nil), ⟨_, hT2, rfl, _, rfl⟩⟩
    have I1 : Inv X pins σ (upd H s.heap.objs.size (.tup [.int (i : Nat), x])) { s with heap := h'', toks := tk + 1 } :=
      I.turnedNew (ch := [e, it]) (fun b ob hb q => (sb.2 b (fun z => hb (by simp [z]))).trans (hk b ob (fun z => hb (by simp [z])) (fun z => hb (by simp [z])) q)) hf (Nat.le_refl _) new
    refine ⟨.ref s.heap.objs.size, _, I1, rfl, ⟨_, x, rfl, I.hok.fresh (Nat.le_refl _), rfl, fun ys hy => by rw [I.tuple_inj hy hq]; exact hx⟩, ⟨⟨x', ?_⟩, st'.1.at fun o q => (sb.2 it (Ne.symm hne)).trans q, hne⟩, fun b hb => ?_⟩
    · have e1 : ((i + 1 : Nat) : Int) = (i : Int) + 1 := by omega
      rw [e1]; exact he'
    · have hb' : b < s.heap.objs.size := by
        have e' : b = e ∨ b = it := by simpa using hb
        rcases e' with z | z
        · rw [z]; exact hel
        · rw [z]; exact hil
      rw [upd_ne (Nat.ne_of_lt hb')]
      exact (hf b hb).1
  done := by
    intro X hP hw hK hc i pins s σ H E I hf st hg
    subst hP hw hK
    obtain ⟨⟨old, he⟩, hit, hne⟩ := st
    obtain ⟨xs, hq, hx⟩ := hg
    obtain ⟨its, rv, p, hz⟩ := I.tuple hq
    obtain ⟨f0, f1, f2, f3, f4, f5⟩ := hf it (by simp)
    have hl := rv.length
    have en : i = its.toArray.size := by simp; omega
    subst en
    exact wpAny_pyNext_enum_endD (draws_tup (A := X.A.in1) (I.ok.hd hc) it a hai its.toArray) he ⟨hit, p⟩ fun h' eb => ⟨rfl, I.turned (t' := s.toks) (fun b o hb q => eb b o hb q) f0 f1 f3 f4 f5⟩
  self := fun A i s Q E st h => let ⟨⟨_, he⟩, _⟩ := st; wpAny_pyIter_enum he h
def iEnumT (K : PySem.W.Frag) (ta : TA) : TI := fun σ H R => ta σ H fun vs H1 => ∃ a xs, vs = [.ref a] ∧ SqT K H1 a xs ∧ R (ItE K a) H1
theorem pi_enumT {X : Cx} {e : Expr} {ta : TA} {p pos tpos : Pos} {elts : List Expr} {kk : Nat} (hg : Gl X "enumerate") (hm : X.mg "enumerate" = none) (ha : PA X [e] ta) (hs : starEach [e] X.env = [(false, eval e X.env)] := by rfl) :
    PI X (.Tuple elts kk tpos) (.Call (.Name "enumerate" p) [e] [] pos) (iEnumT X.K ta) := by
  refine ⟨fun pins s σ H R I h => ?_⟩
  refine Call_ (ld_blt I hg hm boot_enumerate (PyProof.Rows.callWith_type1 (thn (ha.run pos pins s σ H _ I h) fun us s1 ⟨vs, H1, I1, r1, q1⟩ => ?_) hs rfl))
  obtain ⟨a, xs, ex, hq, q⟩ := q1
  subst ex
  cases r1 with
  | cons r rr =>
    cases rr
    cases r
    obtain ⟨its, rv, p', hz⟩ := I1.tuple hq
    have alt : a < s1.heap.objs.size := by
      obtain ⟨o, e, _⟩ := id p'
      exact Heap.lt_size e
    refine call_enum_tup p' fun h' he hit hk => wpAny_pyIter_enum he ?_
    have I2 : Inv X pins σ H1 { s1 with heap := h' } := I1.kept (t' := s1.toks) hk
    refine ⟨s1.heap.objs.size + 1, [s1.heap.objs.size + 1, s1.heap.objs.size], _, _, H1, rfl, I2, turn_enumT a (s1.heap.objs.size + 1) s1.heap.objs.size (Nat.ne_of_lt alt) (Nat.ne_of_lt (Nat.lt_succ_of_lt alt)), ⟨⟨.none, he⟩, hit, Nat.succ_ne_self _⟩, fun b hb => ?_, q⟩
    have e' : b = s1.heap.objs.size + 1 ∨ b = s1.heap.objs.size := by simpa using hb
    have hle : s1.heap.objs.size ≤ b := by
      rcases e' with z | z
      · rw [z]; exact Nat.le_add_right _ _
      · rw [z]; exact Nat.le_refl _
    exact I1.fpOk hle (I1.hok.fresh hle)
section
variable {X : Cx} {S : Sg} {W : WX} {k : Nat} {a : Expr} {pos : Pos}
def kEnumT : List D → Wp (List D) := fun ds b R => match ds with
  | [.tuple xs] => R (.ok (enumD 0 xs)) b
  | _ => False
theorem ix_enumT {p tpos : Pos} {elts : List Expr} {kk : Nat} {f : Env → Wp (List D)} (hm : X.mg "enumerate" = none) (ha : LX X S W [a] f) (hg : Gl X "enumerate" := by rfl)
    (hs : starEach [a] X.env = [(false, eval a X.env)] := by rfl) : IX X S W false (.Tuple elts kk tpos) (.Call (.Name "enumerate" p) [a] [] pos) (wk kEnumT f) := by
  obtain ⟨t, pa, q⟩ := ha
  refine ⟨_, pi_enumT hg hm pa hs, ?_⟩
  refine dg_seq (t2 := fun vs _ H (R : It → Hp → Prop) => ∃ a xs, vs = [.ref a] ∧ SqT X.K H a xs ∧ R (ItE X.K a) H) (f2 := fun ds _ => kEnumT ds) q back_I fun H0 δ σ Hp0 F H b R Q v x rel o hf P => ?_
  unfold kEnumT at hf
  split at hf
  · rename_i xs
    obtain ⟨u, rfl, o1⟩ := isds1 o
    cases o1 with
    | tup h1 r1 =>
      refine ⟨_, _, rfl, SqT.of (rel.sub _ _ h1), P.now rel hf fun F2 H2 x1 x2 _ => ⟨fun i d e => ?_, ⟨_, SqT.of (x2 _ _ (x1 _ _ h1)), by rw [enumD_len, r1.length]⟩⟩⟩
      have g1 : SqT X.K H2 _ _ := SqT.of (x2 _ _ (x1 _ _ h1))
      obtain ⟨y, ey, rfl⟩ := enumD_get _ _ _ _ e
      obtain ⟨v, e1, q1⟩ := r1.get ey
      refine ⟨⟨_, v, g1, e1⟩, fun z H3 hy => ?_⟩
      obtain ⟨T, v', rfl, nT, rfl, f1⟩ := hy
      have ev := f1 _ g1
      rw [e1] at ev; cases ev
      have ex : Ex F2 (upd F2 T (.tup [.int (i : Nat), v])) := Ex.nw (x2.free nT)
      refine ⟨_, .inr ⟨T, _, nT, rfl, rfl⟩, .tup upd_same (.cons ?_ (.cons (q1.mono (x1.tr ex)) .nil))⟩
      rw [Nat.zero_add]; exact .int _
  · exact hf.elim

/-! ### a list of one's own stands from here on -/
def sfrz (i : Nat) (f : SW) : SW := fun δ b R => match δ[i]? with
  | some (some (.own ds)) => f (δ.set i (some (.val (.list ds)))) b R
  | _ => f δ b R
theorem sx_frz {st : Stmt} {f : SW} (i : Nat) (h : SX X S W st f) : SX X S W st (sfrz i f) := by
  obtain ⟨t, p, q⟩ := h
  refine ⟨t, p, fun H0 δ σ F H b R D' rel hf P => ?_⟩
  unfold sfrz at hf
  split at hf
  · rename_i ds hd
    obtain ⟨v, e1, o⟩ := rel.cell i _ hd
    obtain ⟨a, vs, rfl, w, hp, hv⟩ := o
    have ex : Ex F (upd F a (.lst vs)) := Ex.nw w.nf
    have rel' : Rel S H0 (δ.set i (some (.val (.list ds)))) σ (upd F a (.lst vs)) H b := by
      refine ⟨by rw [List.length_set]; exact rel.len, fun c u e => ?_, rel.fr, fun c u e => ?_, ⟨fun z => ?_, fun z => ex _ _ (rel.sto.nu z), rel.sto.at_, rel.sto.some_⟩, fun j c e => ?_, fun j l c c' ne e e' o o' => ?_⟩
      · by_cases z : c = a
        · subst z; rw [upd_same] at e; cases e; exact hp
        · rw [upd_ne z] at e; exact rel.sub c u e
      · by_cases z : c = a
        · exact .inr (by rw [z]; exact w.n0)
        · rw [upd_ne z] at e; exact rel.nw c u e
      · rw [upd_ne (Ne.symm (w.ns z))]; exact rel.sto.out z
      · by_cases z : i = j
        · subst z
          have hi : i < δ.length := (List.getElem?_eq_some_iff.mp hd).1
          rw [List.getElem?_set_self hi] at e
          cases e
          exact ⟨_, e1, .lst upd_same (hv.mono ex)⟩
        · rw [List.getElem?_set_ne z] at e
          obtain ⟨v', e2, k⟩ := rel.cell j c e
          refine ⟨v', e2, k.go ex fun o a' ea w' => ⟨?_, fun _ y => y⟩⟩
          subst ea
          have ne : a ≠ a' := fun y => by
            have := rel.sep i j _ c z hd e rfl o
            rw [e1, e2, y] at this
            exact this rfl
          rw [upd_ne (Ne.symm ne)]; exact w'.nf
      · have nj : i ≠ j := fun z => by
          subst z
          have hi : i < δ.length := (List.getElem?_eq_some_iff.mp hd).1
          rw [List.getElem?_set_self hi] at e
          cases e; cases o
        have nl : i ≠ l := fun z => by
          subst z
          have hi : i < δ.length := (List.getElem?_eq_some_iff.mp hd).1
          rw [List.getElem?_set_self hi] at e'
          cases e'; cases o'
        rw [List.getElem?_set_ne nj] at e
        rw [List.getElem?_set_ne nl] at e'
        exact rel.sep j l c c' ne e e' o o'
    exact q H0 _ σ _ H b R D' rel' hf (P.at_ ex)
  · exact q H0 δ σ F H b R D' rel hf P
/-- a, b = e -/
def sasgT (g : TgW) (f : Env → Wp D) : SW := slift f fun d δ b R => g d δ fun δ' => R (.nx δ') b
theorem sx_asgT {is : List Nat} {tg : Expr} {g : TgW} {f : Env → Wp D} (ht : GX X S is tg g) (h : EX X S W a f) (hs : swapsWithSole [tg] a pos.line X.env = pure false := by rfl) (hw : swappedStores [tg] a X.env = pure none := by rfl)
    (h1 : (assignEach [tg] X.env).map (·.2) = [assign tg X.env] := by rfl) : SX X S W (.Assign [tg] a pos) (sasgT g f) := by
  obtain ⟨t, p, q⟩ := h
  obtain ⟨tt, pt, qt⟩ := ht
  refine ⟨_, ps_asg p pt hs hw h1, ds_lift (tk := fun y D' σ H => tt y σ H D'.nx) q fun H0 δ σ F1 H1 F H b1 b R D' y x r1 rel o hf P => ?_⟩
  exact qt H0 δ σ F H b y x _ _ rel o hf fun δ' σ' r rel' _ => P.nx δ' b r σ' F H rel' Ex.rfl'
end
end BB
set_option Elab.async false
set_option linter.all false
set_option maxRecDepth 100000
set_option autoImplicit false
set_option maxHeartbeats 2000000
/-! Bb13: more expressions. -/
namespace BB
open PySem PySem.Spec PyProof.Rows L2 HotX L2H

section
variable {prog : Program} {w : World} {A : Around} {E : Value → Shared → Prop} {s : Shared}
theorem slice_rev {sl : Addr} {vl vu vs : Value} {n : Nat} {Q : Int × Int × Nat → Shared → Prop} (hs : s.heap.IsSliceOf sl vl vu vs) (pl : IsPart vl none) (pu : IsPart vu none) (ps : IsPart vs (some (-1)))
    (h : Q ((n : Int) - 1, -1, n) s) : wpAny (model prog w) A (Builtin.Slice.sliceApplied (.ref sl) (pure (n : Int))) Q E s := by
  obtain ⟨os, hos, hcs, hds⟩ := id hs
  unfold Builtin.Slice.sliceApplied Builtin.Slice.sliceFields
  refine wpAny_bind (wpAny_bind (wpAny_field hos hds (x := vl) rfl (wpAny_bind (wpAny_field hos hds (x := vu) rfl (wpAny_bind (wpAny_field hos hds (x := vs) rfl (wpAny_pure ?_)))))))
  refine wpAny_bind (HT.slicePart_ ps ?_)
  show wpAny _ _ (if ((-1 : Int) == 0) = true then _ else _) _ _ s
  rw [if_neg (by decide)]
  refine wpAny_bind (HT.slicePart_ pl (wpAny_bind (HT.slicePart_ pu (wpAny_bind (wpAny_pure ?_)))))
  show wpAny _ _ (match Builtin.Slice.sliceAdjust none none (-1) (n : Int) with | (lo, hi) => pure (lo, (-1 : Int), Builtin.Slice.slicePlaces lo hi (-1))) _ _ s
  have e : Builtin.Slice.sliceAdjust none none (-1) (n : Int) = ((n : Int) - 1, -1) := rfl
  rw [e]
  have e2 : Builtin.Slice.slicePlaces ((n : Int) - 1) (-1) (-1) = n := by
    unfold Builtin.Slice.slicePlaces
    rw [if_neg (by decide)]
    by_cases c : (n : Int) - 1 > -1
    · rw [if_pos c]; simp
    · rw [if_neg c]; simp; omega
  show wpAny _ _ (pure ((n : Int) - 1, (-1 : Int), Builtin.Slice.slicePlaces ((n : Int) - 1) (-1) (-1))) _ _ s
  rw [e2]
  exact wpAny_pure h
theorem pick_rev (xs : Array Value) : ((List.range xs.size).filterMap fun (k : Nat) => xs[((xs.size : Int) - 1 + (k : Int) * -1).toNat]?).toArray = xs.toList.reverse.toArray := by
  have e1 : (List.range xs.size).filterMap (fun (k : Nat) => xs[((xs.size : Int) - 1 + (k : Int) * -1).toNat]?) = ((List.range xs.size).map fun k => xs.size - 1 - k).filterMap (fun i : Nat => xs[i]?) := by
    rw [List.filterMap_map]
    congr 1
    funext k
    have e : ((xs.size : Int) - 1 + (k : Int) * -1).toNat = xs.size - 1 - k := by omega
    show xs[((xs.size : Int) - 1 + (k : Int) * -1).toNat]? = xs[xs.size - 1 - k]?
    rw [e]
  rw [e1, PySem.W.krv_range, List.filterMap_reverse, PySem.W.krv_all]
theorem getItem_tup_rev {t sl : Addr} {items : Array Value} {vl vu vs : Value} {Q : Value → Shared → Prop} (ht : IsTup s.heap t items) (hs : s.heap.IsSliceOf sl vl vu vs) (pl : IsPart vl none) (pu : IsPart vu none) (ps : IsPart vs (some (-1)))
    (h : Q (.ref s.heap.objs.size) { s with heap := s.heap.push { cls := .type "tuple", data := .seq items.toList.reverse.toArray } }) (hsz : items.size ≤ sizeLine) : wpAny (model prog w) A (getItem (.ref t) (.ref sl)) Q E s := by
  have ok : sizeOk (.seq items.toList.reverse.toArray) := by
    show items.toList.reverse.toArray.size ≤ sizeLine
    simpa using hsz
  obtain ⟨os, hos, hcs, hds⟩ := id hs
  have hTs : s.TypeIs (.ref sl) "slice" := ⟨os, hos, hcs⟩
  unfold getItem
  try with_reducible refine wpAny_holding ?_
  first | refine wpAny_bind (wpAny_pure ?_) | skip
  refine wpAny_bind (wpAny_sequenceKey ht.typeIs (by decide) ?_)
  refine wpAny_bind (wpAny_callSpecial?_slot (name := Str.ofString "__getitem__") ht.typeIs PyProof.Rows.slot_tuple_getitem (wpAny_call_entry PyProof.Rows.slot_tuple_getitem ht.typeIs PyProof.Rows.entry_tuple_getitem ?_ (PyProof.Rows.args_tuple_getitem _ _)))
  show wpAny _ _ (Builtin.Tuple.tupleItemsOf (.ref t) >>= _) _ _ s
  refine wpAny_bind (PyProof.Rows.tupleItemsOf_ ht ?_)
  refine wpAny_bind (wpAny_typeOf hTs ?_)
  rw [if_pos (by decide)]
  refine wpAny_bind (slice_rev hs pl pu ps ?_)
  show wpAny _ _ (if (((items.size : Int) - 1) == 0 && (-1 : Int) == 1 && items.size == items.size) = true then _ else _) _ _ s
  rw [if_neg (by rw [show ((-1 : Int) == 1) = false from rfl, Bool.and_false, Bool.false_and]; exact Bool.false_ne_true), pick_rev]
  first
    | exact wpAny_bind (m := Builtin.Tuple.tupleExact _) (wpAny_newObj_type (wpAny_pure ⟨_, rfl, wpAny_pure h⟩) ok)
    | exact wpAny_bind (m := Builtin.Tuple.tupleExact _) (wpAny_newObj_type (wpAny_bind (wpAny_pure (wpAny_pure ⟨_, rfl, wpAny_pure h⟩))) ok)
    | exact wpAny_bind (wpAny_bind (m := Builtin.Tuple.tupleExact _) (wpAny_newObj_type (wpAny_pure (wpAny_pure ⟨_, rfl, wpAny_pure h⟩)) ok))
    | exact wpAny_bind (wpAny_bind (m := Builtin.Tuple.tupleExact _) (wpAny_newObj_type (wpAny_pure ⟨_, rfl, wpAny_pure h⟩) ok))
end

/-- xs[::-1], a list or a tuple -/
def tRev (K : PySem.W.Frag) (te : TE) : TE := fun σ H Q => te σ H fun x H1 => ∃ a xs, x = .ref a ∧ ((SqL K H1 a xs ∧ ∀ p, H1 p = none → Q (.ref p) (upd H1 p (.lst xs.reverse))) ∨ (SqT K H1 a xs ∧ ∀ p, H1 p = none → Q (.ref p) (upd H1 p (.tup xs.reverse))))
section
variable {X : Cx}
theorem pe_rev {e : Expr} {te : TE} {k : Nat} {p1 p2 p3 pos : Pos} (he : PE X e te) : PE X (.Subscript e (.Slice none none (some (.UnaryOp .USub (.Constant (.int 1) k p1) p2)) p3) pos) (tRev X.K te) := by
  refine ⟨fun pins s σ H Q I h => ?_⟩
  refine Subscript_ (thn (he.run pins s σ H _ I h) fun v s1 ⟨x, H1, I1, r1, a, xs, ex, q⟩ => ?_)
  subst ex
  cases r1
  have step : PO X (some (.UnaryOp .USub (.Constant (.int 1) k p1) p2)) (tPart (tUn (rU fun i => .int (-i)) (tC (.int 1)))) := po_some (pe_un un_neg pe_int)
  refine wpAny_Slice (thn (po_none.run pins s1 σ H1 (fun o H2 => o = none ∧ H2 = H1) I1 ⟨rfl, rfl⟩) fun vl s2 ⟨l, H2, I2, pl, el, e2⟩ => ?_)
  subst el e2
  refine thn (po_none.run pins s2 σ H2 (fun o H3 => o = none ∧ H3 = H2) I2 ⟨rfl, rfl⟩) fun vu s3 ⟨u, H3, I3, pu, eu, e3⟩ => ?_
  subst eu e3
  refine thn (step.run pins s3 σ H3 (fun o H4 => o = some (-1) ∧ H4 = H3) I3 ⟨1, rfl, -1, rfl, rfl, rfl⟩) fun vs s4 ⟨o, H4, I4, ps, eo, e4⟩ => ?_
  subst eo e4
  have I5 : Inv X pins σ H4 { s4 with heap := s4.heap.push { cls := .type "slice", data := .fields #[vl, vu, vs] } } := I4.kept (t' := s4.toks) fun b ob q => Heap.get?_push_of_some _ q
  show wpAny (model X.prog X.w) X.A (subscriptTail e (.Slice none none (some (.UnaryOp .USub (.Constant (.int 1) k p1) p2)) p3) (.ref a) (.ref s4.heap.objs.size)) (EP X pins σ Q) X.xe { s4 with heap := s4.heap.push { cls := .type "slice", data := .fields #[vl, vu, vs] } }
  rcases q with ⟨hx, q⟩ | ⟨hx, q⟩
  · obtain ⟨its, r, ht, hz⟩ := I5.list hx
    have hlen := r.length
    refine tail_any (ops := [.ref a, .ref s4.heap.objs.size]) ht.isList.typeIs (PySem.slot_list_getitem.lookup) ?_ (by with_unfolding_all rfl)
    refine wpAny_getItem_list_slice ht.isList (Heap.IsSliceOf.new _ vl vu vs) pl pu ps (by decide) ?_ (by rw [List.size_toArray]; omega)
    rw [PySem.W.krv_pick]
    exact ⟨.ref _, _, I5.laid (t' := s4.toks) (o := .lst xs.reverse) (fun b ob q => Heap.get?_push_of_some _ q) (Nat.le_refl _) ⟨by rw [List.length_reverse]; exact hz, _, 0, r.reverse, Heap.get?_push_size _ rfl⟩, rfl, q _ (I5.hok.fresh (Nat.le_refl _))⟩
  · obtain ⟨its, r, ht, hz⟩ := I5.tuple hx
    have hlen := r.length
    refine tail_any (ops := [.ref a, .ref s4.heap.objs.size]) ht.typeIs (PyProof.Rows.slot_tuple_getitem.lookup) ?_ (by with_unfolding_all rfl)
    refine getItem_tup_rev ht (Heap.IsSliceOf.new _ vl vu vs) pl pu ps ?_ (by rw [List.size_toArray]; omega)
    exact ⟨.ref _, _, I5.laid (t' := s4.toks) (o := .tup xs.reverse) (fun b ob q => Heap.get?_push_of_some _ q) (Nat.le_refl _) ⟨by rw [List.length_reverse]; exact hz, _, r.reverse, IsTup.new _ _⟩, rfl, q _ (I5.hok.fresh (Nat.le_refl _))⟩
end
theorem IsDs.rev {F : Hp} : ∀ {vs : List V} {ds : List D}, IsDs F vs ds → IsDs F vs.reverse ds.reverse
  | _, _, .nil => .nil
  | _, _, .cons a b => by rw [List.reverse_cons, List.reverse_cons]; exact (IsDs.rev b).append (.cons a .nil)
section
variable {X : Cx} {S : Sg} {W : WX} {k : Nat} {a b c : Expr} {pos : Pos}
def kRev : D → Wp D := fun x b R => match x with
  | .list ds => R (.ok (.list ds.reverse)) b
  | .tuple ds => R (.ok (.tuple ds.reverse)) b
  | _ => False
theorem ex_rev {j : Nat} {p1 p2 p3 : Pos} {fa : Env → Wp D} (ha : ET X S W a fa) : EX X S W (.Subscript a (.Slice none none (some (.UnaryOp .USub (.Constant (.int 1) j p1) p2)) p3) pos) (wk kRev fa) := by
  obtain ⟨t, pa, q⟩ := ha
  refine ⟨_, pe_rev pa, dg_seq (t2 := fun (x : V) (_ : Sl) (H : Hp) (Q : VK) => ∃ (a : Addr) (xs : List V), x = V.ref a ∧ ((SqL X.K H a xs ∧ ∀ p, H p = none → Q (V.ref p) (upd H p (.lst xs.reverse))) ∨ (SqT X.K H a xs ∧ ∀ p, H p = none → Q (V.ref p) (upd H p (.tup xs.reverse))))) (f2 := fun x _ => kRev x) q back_V fun H0 δ σ Hp0 F H b R Q v x rel o hf P => ?_⟩
  have tv : TV S F H v x := o
  cases x with
  | list ds =>
    obtain ⟨p, vs, rfl, hp, hv⟩ := TV.lst tv rel.sub
    refine ⟨p, vs, rfl, .inl ⟨SqL.of hp, fun p2 hp2 => ?_⟩⟩
    have ex : Ex F (upd F p2 (.lst vs.reverse)) := Ex.nw (rel.sub.free hp2)
    exact P.ok _ _ hf _ _ _ (rel.new hp2) ex (Go.new hp2) (.lst upd_same (hv.rev.mono ex))
  | tuple ds =>
    obtain ⟨p, vs, rfl, hp', hv⟩ := TV.tup tv
    have hp := rel.sub _ _ hp'
    refine ⟨p, vs, rfl, .inr ⟨SqT.of hp, fun p2 hp2 => ?_⟩⟩
    have ex : Ex F (upd F p2 (.tup vs.reverse)) := Ex.nw (rel.sub.free hp2)
    exact P.ok _ _ hf _ _ _ (rel.new hp2) ex (Go.new hp2) (.tup upd_same (hv.rev.mono ex))
  | _ => exact hf.elim
/-! a < b < c -/
def wchain (g1 g2 : D → D → Wp D) (fa fb fc : Env → Wp D) : Env → Wp D := fun δ => wbind (fa δ) fun x => wbind (fb δ) fun y => wbind (g1 x y) fun z b R => match z with
  | .bool true => wbind (fc δ) (fun w => g2 y w) b R
  | .bool false => R (.ok (.bool false)) b
  | _ => False
theorem dg_chain {r r' : R2} {g g' : D → D → Wp D} {ta tb tc : TE} {fa fb fc : Env → Wp D} (hr : R2G S W OkV r g) (hr' : R2G S W OkV r' g') (ha : DG S W (OkT S) ta fa) (hb : DG S W (OkT S) tb fb) (hc : DG S W (OkT S) tc fc) : DG S W OkV (tChain r r' ta tb tc) (wchain g g' fa fb fc) := by
  intro H0 δ σ F H b R Q rel hf P
  refine ha H0 δ σ F H b _ _ rel hf ⟨fun x b1 r1 v F1 H1 rel1 x1 g1 o1 => ?_, P.er⟩
  have P1 := P.at_ back_V rel1 x1 g1
  refine hb H0 δ σ F1 H1 b1 _ _ rel1 r1 ⟨fun y b2 r2 u F2 H2 rel2 x2 g2 o2 => ?_, P1.er⟩
  have P2 := P1.at_ back_V rel2 x2 g2
  have o1' := fwd_T H F1 H1 F2 H2 v x x2 g2.fr o1
  refine hr H0 δ σ F2 H2 b2 _ _ v u x y rel2 o1' o2 r2 ⟨fun z b3 r3 w F3 H3 rel3 x3 g3 o3 => ?_, P2.er⟩
  have P3 := P2.at_ back_V rel3 x3 g3
  have o2' := fwd_T H1 F2 H2 F3 H3 u y x3 g3.fr o2
  cases z with
  | bool z =>
    have o3' : IsD F3 w (.bool z) := o3
    cases o3'
    refine ⟨z, rfl, ?_⟩
    cases z with
    | true =>
      simp only [if_true]
      refine hc H0 δ σ F3 H3 b3 _ _ rel3 r3 ⟨fun w b4 r4 t F4 H4 rel4 x4 g4 o4 => ?_, P3.er⟩
      exact hr' H0 δ σ F4 H4 b4 R Q u t y w rel4 (fwd_T H2 F3 H3 F4 H4 u y x4 g4.fr o2') o4 r4 (P3.at_ back_V rel4 x4 g4)
    | false =>
      simp only [Bool.false_eq_true, if_false]
      exact P3.now rel3 r3 (.bl _)
  | _ => exact r3.elim
theorem ex_chain {op op' : CmpOp} {r r' : R2} {g g' : D → D → Wp D} {fa fb fc : Env → Wp D} (ho : OpR X (compareOp op) r) (ho' : OpR X (compareOp op') r') (hr : R2G S W OkV r g) (hr' : R2G S W OkV r' g') (ha : ET X S W a fa) (hb : ET X S W b fb) (hc : ET X S W c fc)
    (hm : lastMarks [op, op'] [b, c] = false := by with_unfolding_all rfl) : EX X S W (.Compare a [op, op'] [b, c] pos) (wchain g g' fa fb fc) := by
  obtain ⟨ta, p1, q1⟩ := ha
  obtain ⟨tb, p2, q2⟩ := hb
  obtain ⟨tc, p3, q3⟩ := hc
  exact ⟨_, pe_chain ho ho' p1 p2 p3 hm, dg_chain hr hr' q1 q2 q3⟩
theorem bx_chain {op op' : CmpOp} {r r' : R2} {g g' : D → D → Wp D} {fa fb fc : Env → Wp D} (ho : OpR X (compareOp op) r) (ho' : OpR X (compareOp op') r') (hr : R2G S W OkV r g) (hr' : R2G S W OkV r' g') (ha : ET X S W a fa) (hb : ET X S W b fb) (hc : ET X S W c fc)
    (hm : lastMarks [op, op'] [b, c] = false := by with_unfolding_all rfl) : BX X S W (.Compare a [op, op'] [b, c] pos) (wtest (wchain g g' fa fb fc)) := by
  obtain ⟨ta, p1, q1⟩ := ha
  obtain ⟨tb, p2, q2⟩ := hb
  obtain ⟨tc, p3, q3⟩ := hc
  exact ⟨_, pt_chain ho ho' p1 p2 p3 hm, dg_test (dg_chain hr hr' q1 q2 q3)⟩
/-! isinstance(x, tuple) -/
def isTupD : D → Bool
  | .tuple _ => true
  | _ => false
def kIsTup : D → Wp D := fun x b R => (match x with | .dict _ => False | _ => True) ∧ R (.ok (.bool (isTupD x))) b
theorem ex_isTup {p1 p2 : Pos} {fa : Env → Wp D} (hm : X.mg "isinstance" = none) (hm2 : X.mg "tuple" = none) (ha : ET X S W a fa) (hg : Gl X "isinstance" := by rfl) (hg2 : Gl X "tuple" := by rfl)
    (he : starEach [a, .Name "tuple" p2] X.env = (false, eval a X.env) :: starEach [.Name "tuple" p2] X.env := by rfl) (he2 : starEach [.Name "tuple" p2] X.env = (false, eval (.Name "tuple" p2) X.env) :: starEach [] X.env := by rfl) (hpl : (backTo pos (starEach [.Name "tuple" p2] X.env)).any (·.1) = false := by rfl) :
    EX X S W (.Call (.Name "isinstance" p1) [a, .Name "tuple" p2] [] pos) (wk kIsTup fa) := by
  obtain ⟨t, pa, q⟩ := ha
  refine ⟨_, pe_callB call_isi hg hm rfl (pa_cons pa (pa_cons (pe_bltn (v := .ty "tuple") hg2 hm2 rfl rfl) pa_nil he2) he) (by decide) (by decide) he hpl,
    dg_seq (t2 := fun x _ H Q => rIsi X.K [x, .ty "tuple"] H Q) (f2 := fun x _ => kIsTup x) q back_V fun H0 δ σ Hp0 F H b R Q v x rel o hf P => ?_⟩
  have tv : TV S F H v x := o
  have kt : ∀ T : String, ∀ r : Bool, kitB T "tuple" = some r → PySem.W.kitOne X.K (.type T) (.type "tuple") = some r := fun T r h => kit_ty h
  unfold kIsTup at hf
  have fin : ∀ (T : String) (ty : TyX X.K H v (.type T)) (h : kitB T "tuple" = some (isTupD x)), rIsi X.K [v, .ty "tuple"] H Q := fun T ty h => ⟨v, .ty "tuple", .type T, .type "tuple", isTupD x, rfl, .ty "tuple", ty, kt _ _ h, P.now rel hf.2 (.bl _)⟩
  cases x with
  | none =>
    rcases tv with tv | ⟨_, _, _, _, e, _⟩
    · cases tv; exact fin "NoneType" (.base .non) (by decide +kernel)
    · cases e
  | bool i =>
    rcases tv with tv | ⟨_, _, _, _, e, _⟩
    · cases tv; exact fin "bool" (.base (.bl _)) (by show kitB "bool" "tuple" = some false; decide +kernel)
    · cases e
  | int i =>
    rcases tv with tv | ⟨_, _, _, _, e, _⟩
    · cases tv; exact fin "int" (.base (.int _)) (by show kitB "int" "tuple" = some false; decide +kernel)
    · cases e
  | str i =>
    rcases tv with tv | ⟨_, _, _, _, e, _⟩
    · cases tv; exact fin "str" (.base (.str _)) (by show kitB "str" "tuple" = some false; decide +kernel)
    · cases e
  | list ds =>
    obtain ⟨p, vs, rfl, hp, hv⟩ := TV.lst tv rel.sub
    exact fin "list" (.base (.lst hp)) (by show kitB "list" "tuple" = some false; decide +kernel)
  | tuple ds =>
    obtain ⟨p, vs, rfl, hp', hv⟩ := TV.tup tv
    have hp := rel.sub _ _ hp'
    exact fin "tuple" (.base (.tup hp)) (by show kitB "tuple" "tuple" = some true; decide +kernel)
  | dict _ => exact hf.1.elim
end
end BB
set_option Elab.async false
set_option linter.all false
set_option maxRecDepth 100000
set_option autoImplicit false
set_option maxHeartbeats 2000000
/-! Bb14: ranges, repetition, least and greatest of two. -/
namespace BB
open PySem PySem.Spec PyProof.Rows L2 HotX L2H

section
variable {X : Cx} {S : Sg} {W : WX} {k : Nat} {a b c : Expr} {pos : Pos}
theorem rangeD_is {F : Hp} (lo hi : Int) : IsDs F (rgV lo hi) (rangeD lo hi) := by
  unfold rgV rangeD
  have : ∀ l : List Nat, IsDs F (l.map fun i => V.int (lo + (i : Nat))) (l.map fun (i : Nat) => PyData.int (lo + (i : Int))) := fun l => by
    induction l with
    | nil => exact .nil
    | cons x l ih => exact .cons (.int _) ih
  exact this _
def kRg1 : D → Wp (Int × Int) := fun x b R => match x with
  | .int n => RgOk 0 n ∧ R (.ok (0, n)) b
  | _ => False
/-- a range as an argument -/
def RX (X : Cx) (S : Sg) (W : WX) (e : Expr) (f : Env → Wp (Int × Int)) : Prop := ∃ te, PRg X e te ∧ ∀ (H0 : Ent) (δ : Env) (σ : Sl) (F H : Hp) (b : Nat) (R : Except Er (Int × Int) → Nat → Prop) (Q : Int → Int → Hp → Prop), Rel S H0 δ σ F H b → f δ b R →
  Post S W (fun _ _ _ (y : Int × Int) (x : Int × Int) => y = x ∧ RgOk x.1 x.2) H0 δ σ F H R (fun y H' => Q y.1 y.2 H') → te σ H Q
theorem rx_1 {p : Pos} {fa : Env → Wp D} (hm : X.mg "range" = none) (ha : ET X S W a fa) (hg : Gl X "range" := by rfl) (na : starEach [a] X.env = (false, eval a X.env) :: starEach [] X.env := by rfl) : RX X S W (.Call (.Name "range" p) [a] [] pos) (wk kRg1 fa) := by
  obtain ⟨t, pa, q⟩ := ha
  refine ⟨_, prg_1 hg hm pa na, fun H0 δ σ F H b R Q rel hf P => ?_⟩
  refine q H0 δ σ F H b _ _ rel hf ⟨fun x b' r y F' H' rel' ex g o => ?_, P.er⟩
  cases x with
  | int n =>
    have e := TV.int o
    exact ⟨n, e, P.ok (0, n) b' r.2 (0, n) F' H' rel' ex g ⟨rfl, r.1⟩⟩
  | _ => exact r.elim
def wRg2 (fa fb : Env → Wp D) : Env → Wp (Int × Int) := fun δ => wbind (fa δ) fun x => wbind (fb δ) fun y b R => match x, y with
  | .int i, .int j => RgOk i j ∧ R (.ok (i, j)) b
  | _, _ => False
theorem rx_2 {p : Pos} {fa fb : Env → Wp D} (hm : X.mg "range" = none) (ha : ET X S W a fa) (hb : ET X S W b fb) (hg : Gl X "range" := by rfl) (na : starEach [a, b] X.env = (false, eval a X.env) :: starEach [b] X.env := by rfl)
    (nb : starEach [b] X.env = (false, eval b X.env) :: starEach [] X.env := by rfl) (hp : (backTo pos (starEach [b] X.env)).any (·.1) = false := by rfl) : RX X S W (.Call (.Name "range" p) [a, b] [] pos) (wRg2 fa fb) := by
  obtain ⟨t, pa, q⟩ := ha
  obtain ⟨u, pb, q'⟩ := hb
  refine ⟨_, prg_2 hg hm pa pb na nb hp, fun H0 δ σ F H b R Q rel hf P => ?_⟩
  refine q H0 δ σ F H b _ _ rel hf ⟨fun x b1 r1 v F1 H1 rel1 x1 g1 o1 => ?_, P.er⟩
  refine q' H0 δ σ F1 H1 b1 _ _ rel1 r1 ⟨fun y b2 r2 u F2 H2 rel2 x2 g2 o2 => ?_, fun e b' r F' H' q x g => P.er e b' r F' H' q (x1.tr x) (g1.tr rel1.sto g)⟩
  cases x with
  | int i =>
    cases y with
    | int j =>
      have e1 := TV.int o1
      have e2 := TV.int o2
      exact ⟨i, j, e1, e2, P.ok (i, j) b2 r2.2 (i, j) F2 H2 rel2 (x1.tr x2) (g1.tr rel1.sto g2) ⟨rfl, r2.1⟩⟩
    | _ => exact r2.elim
  | _ => exact r2.elim
def wTupRg (f : Env → Wp (Int × Int)) : Env → Wp D := fun δ => wbind (f δ) fun p => wret (.tuple (rangeD p.1 p.2))
theorem ex_tupRg {p : Pos} {f : Env → Wp (Int × Int)} (G : Cxt X S W k) (hm : X.mg "tuple" = none) (ha : RX X S W a f) (hg : Gl X "tuple" := by rfl) (na : starEach [a] X.env = (false, eval a X.env) :: starEach [] X.env := by rfl) : EX X S W (.Call (.Name "tuple" p) [a] [] pos) (wTupRg f) := by
  obtain ⟨t, pa, q⟩ := ha
  refine ⟨_, pe_tupRg G.calm hg hm pa na, fun H0 δ σ F H b R Q rel hf P => ?_⟩
  refine q H0 δ σ F H b _ _ rel hf ⟨fun x b' r y F' H' rel' ex g o => ?_, P.er⟩
  obtain ⟨rfl, ok⟩ := o
  refine ⟨ok, fun n hn => ?_⟩
  have ex2 : Ex F' (upd F' n (.tup (rgV y.1 y.2))) := Ex.nw (rel'.sub.free hn)
  exact P.ok _ b' r _ _ _ (rel'.new hn) (ex.tr ex2) (g.tr rel'.sto (Go.new hn)) (.tup upd_same (rangeD_is _ _))
def wLstRg (f : Env → Wp (Int × Int)) : Env → Wp (List D) := fun δ => wbind (f δ) fun p => wret (rangeD p.1 p.2)
theorem ef_lstRg {p : Pos} {f : Env → Wp (Int × Int)} (G : Cxt X S W k) (hm : X.mg "list" = none) (ha : RX X S W a f) (hg : Gl X "list" := by rfl) (na : starEach [a] X.env = (false, eval a X.env) :: starEach [] X.env := by rfl) : EF X S W (.Call (.Name "list" p) [a] [] pos) (wLstRg f) := by
  obtain ⟨t, pa, q⟩ := ha
  refine ⟨_, pe_listRg G.calm hg hm pa na, fun H0 δ σ F H b R Q rel hf P => ?_⟩
  refine q H0 δ σ F H b _ _ rel hf ⟨fun x b' r y F' H' rel' ex g o => ?_, P.er⟩
  obtain ⟨rfl, ok⟩ := o
  refine ⟨ok, fun n hn => ?_⟩
  exact P.ok _ b' r _ _ _ (rel'.tmp hn) ex (g.tr rel'.sto (Go.tmp hn)) ⟨n, _, rfl, g.fr.free rel'.sto hn, upd_same, rel'.sub.free hn, rangeD_is _ _⟩
/-! [x] * n -/
def wrep (fa : Env → Wp (List D)) (fb : Env → Wp D) : Env → Wp (List D) := fun δ => wbind (fa δ) fun ds => wbind (fb δ) fun y b R => match y with
  | .int n => -(2 ^ 63) ≤ n ∧ n < 2 ^ 63 ∧ ds.length * n.toNat ≤ sizeLine ∧ R (.ok (List.replicate n.toNat ds).flatten) b
  | _ => False
theorem isds_flat {F : Hp} {vs : List V} {ds : List D} (h : IsDs F vs ds) : ∀ n : Nat, IsDs F (List.replicate n vs).flatten (List.replicate n ds).flatten
  | 0 => .nil
  | n + 1 => by rw [List.replicate_succ, List.replicate_succ, List.flatten_cons, List.flatten_cons]; exact h.append (isds_flat h n)
theorem ef_rep {fa : Env → Wp (List D)} {fb : Env → Wp D} (ha : EF X S W a fa) (hb : ET X S W b fb) : EF X S W (.BinOp a .Mult b pos) (wrep fa fb) := by
  obtain ⟨t, pa, q⟩ := ha
  obtain ⟨u, pb, q'⟩ := hb
  refine ⟨_, pe_op op_rep pa pb, fun H0 δ σ F H b R Q rel hf P => ?_⟩
  refine q H0 δ σ F H b _ _ rel hf ⟨fun ds b1 r1 v F1 H1 rel1 x1 g1 o1 => ?_, P.er⟩
  obtain ⟨p, vs, rfl, n0, hp, nf, hv⟩ := o1
  have ns := rel.sto.here n0
  refine q' H0 δ σ F1 H1 b1 _ _ rel1 r1 ⟨fun y b2 r2 u F2 H2 rel2 x2 g2 o2 => ?_, fun e b' r F' H' q x g => P.er e b' r F' H' q (x1.tr x) (g1.tr rel1.sto g)⟩
  cases y with
  | int n =>
    obtain ⟨r3, r4, r5, r6⟩ := r2
    refine ⟨p, n, vs, rfl, TV.int o2, g2.fr p _ hp ns, r3, r4, by rw [hv.length]; exact r5, fun p2 hp2 => ?_⟩
    exact P.ok _ b2 r6 _ _ _ (rel2.tmp hp2) (x1.tr x2) ((g1.tr rel1.sto g2).tr rel2.sto (Go.tmp hp2)) ⟨p2, _, rfl, (g1.tr rel1.sto g2).fr.free rel2.sto hp2, upd_same, rel2.sub.free hp2, isds_flat (hv.mono x2) _⟩
  | _ => exact r2.elim
/-! min(a, b), max(a, b) -/
theorem ex_two {id : String} {x : Str} {p : Pos} {g : Int → Int → Int} {fa fb : Env → Wp D} (hc : CallR X (.builtin id) (fun xs H Q => ∃ i j, xs = [.int i, .int j] ∧ Q (.int (g i j)) H)) (hm : X.mg x = none) (hv : bootBuiltins x = some (.builtin id)) (ha : ET X S W a fa) (hb : ET X S W b fb)
    (hg : Gl X x) (hn : x ≠ "__name__" := by decide) (hdb : (x == ("__debug__" : Str)) = false := by decide) (he : starEach [a, b] X.env = (false, eval a X.env) :: starEach [b] X.env := by rfl) (he2 : starEach [b] X.env = (false, eval b X.env) :: starEach [] X.env := by rfl)
    (hpl : (backTo pos (starEach [b] X.env)).any (·.1) = false := by rfl) : EX X S W (.Call (.Name x p) [a, b] [] pos) (wb2 (wI2 CTrue g) fa fb) := by
  obtain ⟨t, pa, q⟩ := ha
  obtain ⟨u, pb, q'⟩ := hb
  refine ⟨_, pe_callB hc hg hm hv (pa_cons pa (pa_cons pb pa_nil he2) he) hn hdb he hpl, dg_b2 (r := fun x y H Q => ∃ i j, [x, y] = [.int i, .int j] ∧ Q (.int (g i j)) H) (fun H0 δ σ F H b R Q v u x y rel hx hy hf P => ?_) q q'⟩
  cases x with
  | int i =>
    cases y with
    | int j =>
      have e1 := TV.int hx
      have e2 := TV.int hy
      exact ⟨i, j, by rw [e1, e2], P.now rel hf.2 (.int _)⟩
    | _ => exact hf.elim
  | _ => exact hf.elim
theorem ex_min2 {p : Pos} {fa fb : Env → Wp D} (G : Cxt X S W k) (hm : X.mg "min" = none) (ha : ET X S W a fa) (hb : ET X S W b fb) (hg : Gl X "min" := by rfl) (he : starEach [a, b] X.env = (false, eval a X.env) :: starEach [b] X.env := by rfl) (he2 : starEach [b] X.env = (false, eval b X.env) :: starEach [] X.env := by rfl)
    (hpl : (backTo pos (starEach [b] X.env)).any (·.1) = false := by rfl) : EX X S W (.Call (.Name "min" p) [a, b] [] pos) (wb2 (wI2 CTrue fun i j => if j < i then j else i) fa fb) := ex_two (call_min2 G.calm) hm rfl ha hb hg (by decide) (by decide) he he2 hpl
theorem ex_max2 {p : Pos} {fa fb : Env → Wp D} (G : Cxt X S W k) (hm : X.mg "max" = none) (ha : ET X S W a fa) (hb : ET X S W b fb) (hg : Gl X "max" := by rfl) (he : starEach [a, b] X.env = (false, eval a X.env) :: starEach [b] X.env := by rfl) (he2 : starEach [b] X.env = (false, eval b X.env) :: starEach [] X.env := by rfl)
    (hpl : (backTo pos (starEach [b] X.env)).any (·.1) = false := by rfl) : EX X S W (.Call (.Name "max" p) [a, b] [] pos) (wb2 (wI2 CTrue fun i j => if j > i then j else i) fa fb) := ex_two (call_max2 G.calm) hm rfl ha hb hg (by decide) (by decide) he he2 hpl
end
end BB
set_option Elab.async false
set_option linter.all false
set_option maxRecDepth 100000
set_option autoImplicit false
set_option maxHeartbeats 2000000
/-! Bb15: walks over lists or tuples. -/
namespace BB
open PySem PySem.Spec PyProof.Rows L2 HotX L2H

section
variable {X : Cx} {S : Sg} {W : WX} {k : Nat} {a e tg : Expr} {pos : Pos}
def iAny (K : PySem.W.Frag) (te : TE) : TI := fun σ H R => te σ H fun x H1 => ∃ a, x = .ref a ∧ (((∃ xs, SqL K H1 a xs) ∧ R (Itl K a) H1) ∨ ((∃ xs, SqT K H1 a xs) ∧ R (Itt K a) H1))
theorem pi_any {te : TE} (he : PE X e te) : PI X tg e (iAny X.K te) := by
  refine ⟨fun pins s σ H R I h => ?_⟩
  refine thn (he.run pins s σ H _ I h) fun v s1 ⟨x, H1, I1, r1, a, ex, q1⟩ => ?_
  subst ex
  cases r1
  have fp : ∀ b ∈ [s1.heap.objs.size], FpOk X pins H1 b := fun b hb => by
    have e : b = s1.heap.objs.size := by simpa using hb
    subst e
    exact I1.fpOk (Nat.le_refl _) (I1.hok.fresh (Nat.le_refl _))
  rcases q1 with ⟨⟨xs, hq⟩, q⟩ | ⟨⟨xs, hq⟩, q⟩
  · obtain ⟨its, rv, p, hz⟩ := I1.list hq
    refine wpAny_pyIter_list p.isList ?_
    exact ⟨s1.heap.objs.size, [s1.heap.objs.size], _, _, H1, rfl, I1.kept (t' := s1.toks) fun b o e => Heap.get?_push_of_some _ e, turn_list a _, ⟨_, Heap.get?_push_size _ rfl, rfl, rfl⟩, fp, q⟩
  · obtain ⟨its, rv, p, hz⟩ := I1.tuple hq
    refine wpAny_pyIter_tuple (show s1.heap.IsTuple a its.toArray from p) ?_
    exact ⟨s1.heap.objs.size, [s1.heap.objs.size], _, _, H1, rfl, I1.kept (t' := s1.toks) fun b o e => Heap.get?_push_of_some _ e, turn_tuple a _, ⟨_, Heap.get?_push_size _ rfl, rfl, rfl⟩, fp, q⟩
theorem ix_any {f : Env → Wp D} (h : EX X S W e f) : IX X S W false tg e (witems f) := by
  obtain ⟨t, p, q⟩ := h
  refine ⟨_, pi_any p, ?_⟩
  refine dg_seq (t2 := fun x _ H (R : It → Hp → Prop) => ∃ a, x = V.ref a ∧ (((∃ xs, SqL X.K H a xs) ∧ R (Itl X.K a) H) ∨ ((∃ xs, SqT X.K H a xs) ∧ R (Itt X.K a) H))) q back_I fun H0 δ σ Hp0 F H b R Q v x rel o hf P => ?_
  cases x with
  | list ds =>
    cases o with
    | lst h1 h2 => exact ⟨_, rfl, .inl ⟨⟨_, SqL.of (rel.sub _ _ h1)⟩, P.now rel hf (itok_list (fun F2 H2 x1 x2 _ => x2 _ _ (x1 _ _ h1)) h2)⟩⟩
  | tuple ds =>
    cases o with
    | tup h1 h2 => exact ⟨_, rfl, .inr ⟨⟨_, SqT.of (rel.sub _ _ h1)⟩, P.now rel hf (itok_tup h1 h2)⟩⟩
  | _ => exact hf.elim
theorem ix_anyT {f : Env → Wp D} (h : ET X S W e f) : IX X S W true tg e (witems f) := by
  obtain ⟨t, p, q⟩ := h
  refine ⟨_, pi_any p, ?_⟩
  refine dg_seq (t2 := fun x _ H (R : It → Hp → Prop) => ∃ a, x = V.ref a ∧ (((∃ xs, SqL X.K H a xs) ∧ R (Itl X.K a) H) ∨ ((∃ xs, SqT X.K H a xs) ∧ R (Itt X.K a) H))) q back_I fun H0 δ σ Hp0 F H b R Q v x rel o hf P => ?_
  cases x with
  | list ds =>
    have ns : ∃ a vs, v = .ref a ∧ H a = some (.lst vs) ∧ IsDs F vs ds ∧ (S.on = true → a ≠ S.st) := by
      rcases o with o | ⟨a, vs, ds', e1, e2, e3, e4, e5⟩
      · cases o with
        | lst h1 h2 => exact ⟨_, _, rfl, rel.sub _ _ h1, h2, fun z q => by rw [q, rel.sto.out z] at h1; cases h1⟩
      · cases e2; exact ⟨a, vs, e1, e3, e4, e5⟩
    obtain ⟨a, vs, rfl, h1, h2, h3⟩ := ns
    exact ⟨_, rfl, .inl ⟨⟨_, SqL.of h1⟩, P.now rel hf (itok_list (fun F2 H2 x1 x2 x3 => x3 rfl a _ h1 h3) h2)⟩⟩
  | tuple ds =>
    obtain ⟨a, vs, rfl, h1, h2⟩ := TV.tup (S := S) (H := H) o
    exact ⟨_, rfl, .inr ⟨⟨_, SqT.of (rel.sub _ _ h1)⟩, P.now rel hf (itok_tup h1 h2)⟩⟩
  | _ => exact hf.elim
/-! enumerate -/
def iEnumA (K : PySem.W.Frag) (ta : TA) : TI := fun σ H R => ta σ H fun vs H1 => ∃ a, vs = [.ref a] ∧ ((∃ xs, SqL K H1 a xs ∧ R (Ite K a) H1) ∨ (∃ xs, SqT K H1 a xs ∧ R (ItE K a) H1))
theorem pi_enumA {p tpos : Pos} {elts : List Expr} {kk : Nat} {ta : TA} (hg : Gl X "enumerate") (hm : X.mg "enumerate" = none) (ha : PA X [e] ta) (hs : starEach [e] X.env = [(false, eval e X.env)] := by rfl) :
    PI X (.Tuple elts kk tpos) (.Call (.Name "enumerate" p) [e] [] pos) (iEnumA X.K ta) := by
  refine ⟨fun pins s σ H R I h => ?_⟩
  refine Call_ (ld_blt I hg hm boot_enumerate (PyProof.Rows.callWith_type1 (thn (ha.run pos pins s σ H _ I h) fun us s1 ⟨vs, H1, I1, r1, q1⟩ => ?_) hs rfl))
  obtain ⟨a, ex, q⟩ := q1
  subst ex
  cases r1 with
  | cons r rr =>
    cases rr
    cases r
    have fp : ∀ b ∈ [s1.heap.objs.size + 1, s1.heap.objs.size], FpOk X pins H1 b := fun b hb => by
      have e' : b = s1.heap.objs.size + 1 ∨ b = s1.heap.objs.size := by simpa using hb
      have hle : s1.heap.objs.size ≤ b := by
        rcases e' with z | z
        · rw [z]; exact Nat.le_add_right _ _
        · rw [z]; exact Nat.le_refl _
      exact I1.fpOk hle (I1.hok.fresh hle)
    rcases q with ⟨xs, hq, q⟩ | ⟨xs, hq, q⟩
    · obtain ⟨its, rv, p', hz⟩ := I1.list hq
      refine call_enumerate_list p'.isList fun h' he hit hsz hk => wpAny_pyIter_enum he ?_
      exact ⟨s1.heap.objs.size + 1, [s1.heap.objs.size + 1, s1.heap.objs.size], _, _, H1, rfl, I1.kept (t' := s1.toks) hk, turn_enum a (s1.heap.objs.size + 1) s1.heap.objs.size, ⟨⟨.none, he⟩, hit, Nat.succ_ne_self _⟩, fp, q⟩
    · obtain ⟨its, rv, p', hz⟩ := I1.tuple hq
      have alt : a < s1.heap.objs.size := by
        obtain ⟨o, e, _⟩ := id p'
        exact Heap.lt_size e
      refine call_enum_tup p' fun h' he hit hk => wpAny_pyIter_enum he ?_
      exact ⟨s1.heap.objs.size + 1, [s1.heap.objs.size + 1, s1.heap.objs.size], _, _, H1, rfl, I1.kept (t' := s1.toks) hk, turn_enumT a (s1.heap.objs.size + 1) s1.heap.objs.size (Nat.ne_of_lt alt) (Nat.ne_of_lt (Nat.lt_succ_of_lt alt)), ⟨⟨.none, he⟩, hit, Nat.succ_ne_self _⟩, fp, q⟩
def kEnum : List D → Wp (List D) := fun ds b R => match ds with
  | [.list xs] => R (.ok (enumD 0 xs)) b
  | [.tuple xs] => R (.ok (enumD 0 xs)) b
  | _ => False
theorem ix_enum {p tpos : Pos} {elts : List Expr} {kk : Nat} {f : Env → Wp (List D)} (hm : X.mg "enumerate" = none) (ha : LX X S W [a] f) (hg : Gl X "enumerate" := by rfl)
    (hs : starEach [a] X.env = [(false, eval a X.env)] := by rfl) : IX X S W false (.Tuple elts kk tpos) (.Call (.Name "enumerate" p) [a] [] pos) (wk kEnum f) := by
  obtain ⟨t, pa, q⟩ := ha
  refine ⟨_, pi_enumA hg hm pa hs, ?_⟩
  refine dg_seq (t2 := fun vs _ H (R : It → Hp → Prop) => ∃ a, vs = [V.ref a] ∧ ((∃ xs, SqL X.K H a xs ∧ R (Ite X.K a) H) ∨ (∃ xs, SqT X.K H a xs ∧ R (ItE X.K a) H))) (f2 := fun ds _ => kEnum ds) q back_I fun H0 δ σ Hp0 F H b R Q v x rel o hf P => ?_
  unfold kEnum at hf
  split at hf
  · rename_i xs
    obtain ⟨u, rfl, o1⟩ := isds1 o
    cases o1 with
    | lst h1 r1 =>
      refine ⟨_, rfl, .inl ⟨_, SqL.of (rel.sub _ _ h1), P.now rel hf fun F2 H2 x1 x2 _ => ⟨fun i d e => ?_, ⟨_, SqL.of (x2 _ _ (x1 _ _ h1)), by rw [enumD_len, r1.length]; exact Nat.le_refl _⟩⟩⟩⟩
      have g1 : SqL X.K H2 _ _ := SqL.of (x2 _ _ (x1 _ _ h1))
      obtain ⟨y, ey, rfl⟩ := enumD_get _ _ _ _ e
      obtain ⟨v, e1, q1⟩ := r1.get ey
      refine ⟨⟨_, v, g1, e1⟩, fun z H3 hy => ?_⟩
      obtain ⟨T, v', rfl, nT, rfl, f1⟩ := hy
      have ev := f1 _ g1
      rw [e1] at ev; cases ev
      have ex : Ex F2 (upd F2 T (.tup [.int (i : Nat), v])) := Ex.nw (x2.free nT)
      refine ⟨_, .inr ⟨T, _, nT, rfl, rfl⟩, .tup upd_same (.cons ?_ (.cons (q1.mono (x1.tr ex)) .nil))⟩
      rw [Nat.zero_add]; exact .int _
  · rename_i xs
    obtain ⟨u, rfl, o1⟩ := isds1 o
    cases o1 with
    | tup h1 r1 =>
      refine ⟨_, rfl, .inr ⟨_, SqT.of (rel.sub _ _ h1), P.now rel hf fun F2 H2 x1 x2 _ => ⟨fun i d e => ?_, ⟨_, SqT.of (x2 _ _ (x1 _ _ h1)), by rw [enumD_len, r1.length]⟩⟩⟩⟩
      have g1 : SqT X.K H2 _ _ := SqT.of (x2 _ _ (x1 _ _ h1))
      obtain ⟨y, ey, rfl⟩ := enumD_get _ _ _ _ e
      obtain ⟨v, e1, q1⟩ := r1.get ey
      refine ⟨⟨_, v, g1, e1⟩, fun z H3 hy => ?_⟩
      obtain ⟨T, v', rfl, nT, rfl, f1⟩ := hy
      have ev := f1 _ g1
      rw [e1] at ev; cases ev
      have ex : Ex F2 (upd F2 T (.tup [.int (i : Nat), v])) := Ex.nw (x2.free nT)
      refine ⟨_, .inr ⟨T, _, nT, rfl, rfl⟩, .tup upd_same (.cons ?_ (.cons (q1.mono (x1.tr ex)) .nil))⟩
      rw [Nat.zero_add]; exact .int _
  · exact hf.elim
end
/-! ### what a law's text has written, as facts -/
/-- the built-in names stand for themselves -/
structure Blt (mg : Str → Option Value) : Prop where
  abs : mg "abs" = none
  all : mg "all" = none
  any : mg "any" = none
  enumerate : mg "enumerate" = none
  int : mg "int" = none
  isinstance : mg "isinstance" = none
  len : mg "len" = none
  list : mg "list" = none
  max : mg "max" = none
  min : mg "min" = none
  range : mg "range" = none
  repr : mg "repr" = none
  set : mg "set" = none
  sorted : mg "sorted" = none
  str : mg "str" = none
  sum : mg "sum" = none
  tuple : mg "tuple" = none
  zip : mg "zip" = none
/-- a def of the text -/
def FnIn (K : PySem.W.Frag) (mg : Str → Option Value) (x : Str) (st : Stmt) : Prop := ∃ f fd, Fun K x x st f fd ∧ mg x = some (.ref f)
/-- a def that keeps a promise over data -/
def DfE (P : Program) (w : World) (K : PySem.W.Frag) (mg : Str → Option Value) (base : Heap) (T : Er → Value) (k : Nat) (x : Str) (ps : List Str) (spec : Spec) : Prop :=
  ∃ f fd, Df P w K mg base T k x f fd ps spec ∧ ∀ (b : Nat) (R : Except Er D → Nat → Prop) (cs : List Cell), spec cs b R → cs.length = ps.length
theorem DfE.imp {P : Program} {w : World} {K : PySem.W.Frag} {mg : Str → Option Value} {base : Heap} {T : Er → Value} {k : Nat} {x : Str} {ps : List Str} {s1 s2 : Spec} (F : DfE P w K mg base T k x ps s1) (h : ∀ cs b R, s2 cs b R → s1 cs b R) : DfE P w K mg base T k x ps s2 := by
  obtain ⟨f, fd, F, l⟩ := F
  exact ⟨f, fd, ⟨F.fn.imp fun vs H Q E ⟨hl, S, F0, b, cs, R, a1, a2, a3, a4, a5, a6, a7, a8⟩ => ⟨hl, S, F0, b, cs, R, a1, a2, a3, a4, a5, h _ _ _ a6, a7, a8⟩, F.at_, F.kp, F.bd⟩, fun b R cs q => l b R cs (h _ _ _ q)⟩
section
variable {X : Cx} {S : Sg} {W : WX} {k : Nat} {x : Str} {p pos : Pos} {e : Expr} {es : List Expr} {ps : List Str} {spec : Spec}
theorem ex_giE {i : Int} (hm : ∃ t, X.mg x = some (.int i t)) (hg : Gl X x := by rfl) (hd : (x == ("__debug__" : Str)) = false := by decide) : EX X S W (.Name x pos) (wc (.int i)) := by
  obtain ⟨t, h⟩ := hm
  exact ex_gi h hg hd
theorem ex_callE {j : Nat} {fa : Env → Wp (List Cell)} (G : Cxt X S W k) (F : DfE X.prog X.w X.K X.mg X.base S.cls j x ps spec) (hj : j ≤ k) (ha : AX X S W (e :: es) fa) (hg : Gl X x := by rfl) (hdb : (x == ("__debug__" : Str)) = false := by decide)
    (he : starEach (e :: es) X.env = (false, eval e X.env) :: starEach es X.env := by rfl) (hpl : (backTo pos (starEach es X.env)).any (·.1) = false := by rfl) : EX X S W (.Call (.Name x p) (e :: es) [] pos) (wcall fa spec) := by
  obtain ⟨f, fd, F, l⟩ := F
  exact ex_call G F l hj ha hg hdb he hpl
end
/-- a def's promise from its body -/
theorem dfe_of {P : Program} {w : World} {K : PySem.W.Frag} {mg : Str → Option Value} {base : Heap} {T : Er → Value} {x : Str} {st : Stmt} {N ps : List Str} {k : Nat} {spec : Spec} {fb : SW} (Fe : FnIn K mg x st) (Sc : FnScope N ps (defScope st)) (bd : ∀ f fd, Fun K x x st f fd → Binds K fd ps [])
    (body : ∀ (f : Addr) (S : Sg) (cdv : Value) (A : Around) (outer : List PySem.Env) (s : Shared) (H : Hp) (E : XK), S.cls = T → Cxt (bx P w K mg base N x st f cdv A outer s H E) S (bw E) k → SSX (bx P w K mg base N x st f cdv A outer s H E) S (bw E) (defBody st) fb)
    (run : ∀ (cs : List Cell) (b : Nat) (R : Except Er D → Nat → Prop), spec cs b R → cs.length = ps.length ∧ runB N.length fb cs b R) : DfE P w K mg base T (k + 1) x ps spec := by
  obtain ⟨f, fd, F, hm⟩ := Fe
  exact ⟨f, fd, df_of F Sc hm (bd f fd F) (body f) run, fun b R cs h => (run cs b R h).1⟩
/-- the def that tells an error -/
def ErrFn (P : Program) (w : World) (K : PySem.W.Frag) (mg : Str → Option Value) (base : Heap) (C : Nat → Addr) : Prop :=
  ∃ f fd, FnE P w K mg base (erV C) 1 f fd ∧ Binds K fd ["e"] [] ∧ PySem.W.keepIn K (.ref f) = true ∧ mg "_law_error" = some (.ref f) ∧ ∃ cv, mg "MindError" = some cv ∧ ∀ er, PySem.W.exmOne K (erV C er) cv = some true
theorem kit_same {K : PySem.W.Frag} {a : Addr} : PySem.W.kitOne K (.ref a) (.ref a) = some true := by
  unfold PySem.W.kitOne
  rw [if_pos (by simp)]
theorem kit_diff {K : PySem.W.Frag} {a c : Addr} (hr : PySem.W.subIn K (.ref c) (.ref c) = some true) (hd : PySem.W.hasDictIn K c = true) (ht : PySem.W.typeIn K (.ref c) = some (.type "type")) (hs : PySem.W.subIn K (.ref a) (.ref c) = some false) : PySem.W.kitOne K (.ref a) (.ref c) = some false := by
  obtain ⟨cd, hc, _⟩ := PySem.W.any_some hd
  have e2 : ((PySem.W.clsIn K c).isSome && PySem.W.typeIn K (.ref c) == some (.type "type")) = true := by rw [hc, ht] <;> rfl
  unfold PySem.W.kitOne
  split
  · rename_i h
    have e : a = c := by simpa using h
    rw [e, hr] at hs; cases hs
  · show (if ((PySem.W.clsIn K c).isSome && PySem.W.typeIn K (.ref c) == some (.type "type")) = true then PySem.W.subIn K (.ref a) (.ref c) else none) = some false
    rw [if_pos e2]; exact hs
end BB
set_option Elab.async false
set_option linter.all false
set_option maxRecDepth 100000
set_option autoImplicit false
set_option maxHeartbeats 2000000
/-! Bb16: running denotations. -/
namespace BB
open PySem PySem.Spec PyProof.Rows L2 HotX L2H

section
variable {α β : Type} {f g : Env → Wp D} {c h : Env → Wp Bool} {fl : Env → Wp (List D)} {δ : Env} {b : Nat} {i j : Int} {k l : Bool} {d e : D} {ds es : List D}
@[simp ↓] theorem e_wret {x : α} {R : Except Er α → Nat → Prop} : wret x b R = R (.ok x) b := id rfl
@[simp ↓] theorem e_wbind {m : Wp α} {n : α → Wp β} {R : Except Er β → Nat → Prop} : wbind m n b R = m b fun r b' => match r with
  | .ok x => n x b' R
  | .error e => R (.error e) b' := id rfl
@[simp ↓] theorem e_wc {R : Except Er D → Nat → Prop} : wc d δ b R = R (.ok d) b := id rfl
@[simp ↓] theorem e_wvar {n : Nat} {R : Except Er D → Nat → Prop} : wvar n δ b R = match δ[n]? with
  | some (some (.val d)) => R (.ok d) b
  | _ => False := id rfl
@[simp ↓] theorem e_wvarT {n : Nat} {R : Except Er D → Nat → Prop} : wvarT n δ b R = match δ[n]? with
  | some (some (.val d)) => R (.ok d) b
  | some (some (.own ds)) => R (.ok (.list ds)) b
  | _ => False := id rfl
@[simp ↓] theorem e_wvarC {n : Nat} {R : Except Er Cell → Nat → Prop} : wvarC n δ b R = match δ[n]? with
  | some (some (.val d)) => R (.ok (.val d)) b
  | some (some .st) => R (.ok .st) b
  | some (some (.ro ns)) => R (.ok (.ro ns)) b
  | _ => False := id rfl
@[simp ↓] theorem e_wb2 {G : D → D → Wp D} : wb2 G f g δ = wbind (f δ) fun x => wbind (g δ) fun y => G x y := id rfl
@[simp ↓] theorem e_wb1 {G : D → Wp D} : wb1 G f δ = wbind (f δ) G := id rfl
@[simp ↓] theorem e_wk {F : Env → Wp α} {K : α → Wp β} : wk K F δ = wbind (F δ) K := id rfl
@[simp ↓] theorem e_wlst : wlst fl δ = wbind (fl δ) fun ds => wret (.list ds) := id rfl
@[simp ↓] theorem e_warg : warg f δ = wbind (f δ) fun d => wret (.val d) := id rfl
@[simp ↓] theorem e_wnil : wnil δ = wret [] := id rfl
@[simp ↓] theorem e_wcons : wcons f fl δ = wbind (f δ) fun x => wbind (fl δ) fun xs => wret (x :: xs) := id rfl
@[simp ↓] theorem e_wnilC : wnilC δ = wret [] := id rfl
@[simp ↓] theorem e_wconsC {fc : Env → Wp Cell} {fa : Env → Wp (List Cell)} : wconsC fc fa δ = wbind (fc δ) fun x => wbind (fa δ) fun xs => wret (x :: xs) := id rfl
@[simp ↓] theorem e_wtup : wtup fl δ = wbind (fl δ) fun xs b R => xs.length ≤ sizeLine ∧ R (.ok (.tuple xs)) b := id rfl
@[simp ↓] theorem e_wlis : wlis fl δ = wbind (fl δ) fun xs b R => xs.length ≤ sizeLine ∧ R (.ok xs) b := id rfl
@[simp ↓] theorem e_wlc {vs : List Nat} {G : TgW} : wlc fl vs G c f δ = wbind (fl δ) fun ds b R => ds.length ≤ sizeLine ∧ wComp G c f ds (wipeE δ vs) b fun ys b' => R (.ok ys) b' := id rfl
@[simp ↓] theorem e_wcall {fa : Env → Wp (List Cell)} {s : Spec} : wcall fa s δ = wbind (fa δ) s := id rfl
/-! the kinds of operations -/
@[simp ↓] theorem e_wI2 {C : Int → Int → Prop} {G : Int → Int → Int} {R : Except Er D → Nat → Prop} : wI2 C G (.int i) (.int j) b R = (C i j ∧ R (.ok (.int (G i j))) b) := id rfl
@[simp ↓] theorem e_wI1 {G : Int → Int} {R : Except Er D → Nat → Prop} : wI1 G (.int i) b R = R (.ok (.int (G i))) b := id rfl
@[simp ↓] theorem e_wIB {G : Int → Int → Bool} {R : Except Er D → Nat → Prop} : wIB G (.int i) (.int j) b R = R (.ok (.bool (G i j))) b := id rfl
@[simp ↓] theorem e_add1 {R : Except Er D → Nat → Prop} : wAdd (.int i) (.int j) b R = R (.ok (.int (i + j))) b := id rfl
@[simp ↓] theorem e_add2 {R : Except Er D → Nat → Prop} : wAdd (.list ds) (.list es) b R = (ds.length + es.length ≤ sizeLine ∧ R (.ok (.list (ds ++ es))) b) := id rfl
@[simp ↓] theorem e_add3 {R : Except Er D → Nat → Prop} : wAdd (.tuple ds) (.tuple es) b R = (ds.length + es.length ≤ sizeLine ∧ R (.ok (.tuple (ds ++ es))) b) := id rfl
@[simp ↓] theorem e_wEq {R : Except Er D → Nat → Prop} : wEq d e b R = (okE d e ∧ R (.ok (.bool (PyData.eqv d e))) b) := id rfl
@[simp ↓] theorem e_wNe {R : Except Er D → Nat → Prop} : wNe d e b R = (okE d e ∧ R (.ok (.bool (!PyData.eqv d e))) b) := id rfl
@[simp ↓] theorem e_ix1 {R : Except Er D → Nat → Prop} : wIx (.list ds) (.int i) b R = ∃ d, atI ds i = some d ∧ R (.ok d) b := id rfl
@[simp ↓] theorem e_ix2 {R : Except Er D → Nat → Prop} : wIx (.tuple ds) (.int i) b R = ∃ d, atI ds i = some d ∧ R (.ok d) b := id rfl
@[simp ↓] theorem e_len1 {R : Except Er D → Nat → Prop} : kLen (.list ds) b R = R (.ok (.int ds.length)) b := id rfl
@[simp ↓] theorem e_len2 {R : Except Er D → Nat → Prop} : kLen (.tuple ds) b R = R (.ok (.int ds.length)) b := id rfl
@[simp ↓] theorem e_int1 {R : Except Er D → Nat → Prop} : kInt (.int i) b R = R (.ok (.int i)) b := id rfl
@[simp ↓] theorem e_int2 {R : Except Er D → Nat → Prop} : kInt (.bool k) b R = R (.ok (.int (if k then 1 else 0))) b := id rfl
@[simp ↓] theorem e_abs {R : Except Er D → Nat → Prop} : kAbs (.int i) b R = R (.ok (.int (if i < 0 then -i else i))) b := id rfl
@[simp ↓] theorem e_tup1 {R : Except Er D → Nat → Prop} : kTuple (.list ds) b R = R (.ok (.tuple ds)) b := id rfl
@[simp ↓] theorem e_tup2 {R : Except Er D → Nat → Prop} : kTuple (.tuple ds) b R = R (.ok (.tuple ds)) b := id rfl
@[simp ↓] theorem e_lst1 {R : Except Er (List D) → Nat → Prop} : kList (.list ds) b R = R (.ok ds) b := id rfl
@[simp ↓] theorem e_lst2 {R : Except Er (List D) → Nat → Prop} : kList (.tuple ds) b R = R (.ok ds) b := id rfl
@[simp ↓] theorem e_rev1 {R : Except Er D → Nat → Prop} : kRev (.list ds) b R = R (.ok (.list ds.reverse)) b := id rfl
@[simp ↓] theorem e_rev2 {R : Except Er D → Nat → Prop} : kRev (.tuple ds) b R = R (.ok (.tuple ds.reverse)) b := id rfl
@[simp ↓] theorem e_tru1 {R : Except Er Bool → Nat → Prop} : wtru (.bool k) b R = R (.ok k) b := id rfl
@[simp ↓] theorem e_tru2 {R : Except Er Bool → Nat → Prop} : wtru (.int i) b R = R (.ok (i != 0)) b := id rfl
@[simp ↓] theorem e_tru3 {R : Except Er Bool → Nat → Prop} : wtru (.list ds) b R = R (.ok (!ds.isEmpty)) b := id rfl
@[simp ↓] theorem e_tru4 {R : Except Er Bool → Nat → Prop} : wtru (.tuple ds) b R = R (.ok (!ds.isEmpty)) b := id rfl
@[simp ↓] theorem e_tru5 {R : Except Er Bool → Nat → Prop} : wtru .none b R = R (.ok false) b := id rfl
@[simp ↓] theorem e_rg1 {R : Except Er (Int × Int) → Nat → Prop} : kRg1 (.int i) b R = (RgOk 0 i ∧ R (.ok (0, i)) b) := id rfl
@[simp ↓] theorem e_range1 {R : Except Er (List D) → Nat → Prop} : kRange1 [.int i] b R = (big62 i ∧ R (.ok (rangeD 0 i)) b) := id rfl
@[simp ↓] theorem e_range2 {R : Except Er (List D) → Nat → Prop} : kRange2 [.int i, .int j] b R = ((big62 i ∧ big62 j) ∧ R (.ok (rangeD i j)) b) := id rfl
@[simp ↓] theorem e_enum1 {R : Except Er (List D) → Nat → Prop} : kEnum [.list ds] b R = R (.ok (enumD 0 ds)) b := id rfl
@[simp ↓] theorem e_enum2 {R : Except Er (List D) → Nat → Prop} : kEnum [.tuple ds] b R = R (.ok (enumD 0 ds)) b := id rfl
@[simp ↓] theorem e_isN {R : Except Er D → Nat → Prop} : wIsN d .none b R = R (.ok (.bool (isNonD d))) b := id rfl
@[simp ↓] theorem e_notN {R : Except Er D → Nat → Prop} : wNotN d .none b R = R (.ok (.bool (!isNonD d))) b := id rfl
/-! tests -/
@[simp ↓] theorem e_wtest {R : Except Er Bool → Nat → Prop} : wtest f δ b R = f δ b fun r b' => match r with
  | .ok (.bool k) => R (.ok k) b'
  | .ok _ => False
  | .error e => R (.error e) b' := by
  show f δ b _ = _
  congr 1
  funext r b'
  cases r with
  | error e => rfl
  | ok x => cases x <;> rfl
@[simp ↓] theorem e_wand {R : Except Er Bool → Nat → Prop} : wand c h δ b R = c δ b fun r b' => match r with
  | .ok k => if k = true then h δ b' R else R (.ok false) b'
  | .error e => R (.error e) b' := by
  show c δ b _ = _
  congr 1
  funext r b'
  cases r with
  | error e => rfl
  | ok x => cases x <;> rfl
@[simp ↓] theorem e_wor {R : Except Er Bool → Nat → Prop} : wor c h δ b R = c δ b fun r b' => match r with
  | .ok k => if k = true then R (.ok true) b' else h δ b' R
  | .error e => R (.error e) b' := by
  show c δ b _ = _
  congr 1
  funext r b'
  cases r with
  | error e => rfl
  | ok x => cases x <;> rfl
@[simp ↓] theorem e_wnot : wnot c δ = wbind (c δ) fun x => wret (!x) := id rfl
@[simp ↓] theorem e_wandV {R : Except Er D → Nat → Prop} : wandV f g δ b R = f δ b fun r b' => match r with
  | .ok (.bool k) => if k = true then g δ b' R else R (.ok (.bool false)) b'
  | .ok _ => False
  | .error e => R (.error e) b' := by
  show f δ b _ = _
  congr 1
  funext r b'
  cases r with
  | error e => rfl
  | ok x =>
    cases x with
    | bool k => cases k <;> rfl
    | _ => rfl
@[simp ↓] theorem e_worV {R : Except Er D → Nat → Prop} : worV f g δ b R = f δ b fun r b' => match r with
  | .ok (.bool k) => if k = true then R (.ok (.bool true)) b' else g δ b' R
  | .ok _ => False
  | .error e => R (.error e) b' := by
  show f δ b _ = _
  congr 1
  funext r b'
  cases r with
  | error e => rfl
  | ok x =>
    cases x with
    | bool k => cases k <;> rfl
    | _ => rfl
@[simp ↓] theorem e_wnotV {R : Except Er D → Nat → Prop} : wnotV f δ b R = f δ b fun r b' => match r with
  | .ok (.bool k) => R (.ok (.bool (!k))) b'
  | .ok _ => False
  | .error e => R (.error e) b' := by
  show f δ b _ = _
  congr 1
  funext r b'
  cases r with
  | error e => rfl
  | ok x => cases x <;> rfl
@[simp ↓] theorem e_wif {R : Except Er D → Nat → Prop} : wif c f g δ b R = c δ b fun r b' => match r with
  | .ok k => if k = true then f δ b' R else g δ b' R
  | .error e => R (.error e) b' := by
  show c δ b _ = _
  congr 1
  funext r b'
  cases r with
  | error e => rfl
  | ok x => cases x <;> rfl
@[simp ↓] theorem e_wchain {G1 G2 : D → D → Wp D} {f3 : Env → Wp D} : wchain G1 G2 f g f3 δ = wbind (f δ) fun x => wbind (g δ) fun y => wbind (G1 x y) fun z b R => match z with
  | .bool k => if k = true then wbind (f3 δ) (fun w => G2 y w) b R else R (.ok (.bool false)) b
  | _ => False := by
  show wbind (f δ) _ = _
  congr 1
  funext x
  congr 1
  funext y
  congr 1
  funext z b R
  cases z with
  | bool k => cases k <;> rfl
  | _ => rfl
@[simp ↓] theorem e_wop : wop f δ = wbind (f δ) fun d b R => match d with
  | .int i => R (.ok (some i)) b
  | _ => False := id rfl
@[simp ↓] theorem e_wnop : wnop δ = wret none := id rfl
@[simp ↓] theorem e_wsl {o1 o2 : Env → Wp (Option Int)} : wsl f o1 o2 δ = wbind (f δ) fun x => wbind (o1 δ) fun lo => wbind (o2 δ) fun hi => kSl x lo hi := id rfl
@[simp ↓] theorem e_wTupRg {fr : Env → Wp (Int × Int)} : wTupRg fr δ = wbind (fr δ) fun p => wret (.tuple (rangeD p.1 p.2)) := id rfl
@[simp ↓] theorem e_wLstRg {fr : Env → Wp (Int × Int)} : wLstRg fr δ = wbind (fr δ) fun p => wret (rangeD p.1 p.2) := id rfl
@[simp ↓] theorem e_wyes : wyes δ = wret true := id rfl
@[simp ↓] theorem e_witems : witems f δ = wbind (f δ) fun d b R => match d with
  | .list ds => R (.ok ds) b
  | .tuple ds => R (.ok ds) b
  | _ => False := id rfl
/-! statements -/
variable {s t : SW} {R : Out → Nat → Prop}
@[simp ↓] theorem e_snil : snil δ b R = R (.nx δ) b := id rfl
@[simp ↓] theorem e_sseq : sseq s t δ b R = s δ b fun o b' => match o with
  | .nx δ' => t δ' b' R
  | .rt d => R (.rt d) b'
  | .bk δ' => R (.bk δ') b'
  | .ct δ' => R (.ct δ') b'
  | .er e => R (.er e) b' := id rfl
@[simp ↓] theorem e_sbrk : sbrk δ b R = R (.bk δ) b := id rfl
@[simp ↓] theorem e_scnt : scnt δ b R = R (.ct δ) b := id rfl
@[simp ↓] theorem e_slift {F : Env → Wp α} {K : α → SW} : slift F K δ b R = F δ b fun r b' => match r with
  | .ok x => K x δ b' R
  | .error e => R (.er e) b' := id rfl
@[simp ↓] theorem e_sdrop : sdrop f = slift f fun _ => snil := id rfl
@[simp ↓] theorem e_sret : sret f = slift f fun d _ b R => R (.rt d) b := id rfl
@[simp ↓] theorem e_sretN : sretN δ b R = R (.rt .none) b := id rfl
@[simp ↓] theorem e_sretV {n : Nat} : sretV n δ b R = match δ[n]? with
  | some (some (.val d)) => R (.rt d) b
  | some (some (.own ds)) => R (.rt (.list ds)) b
  | _ => False := id rfl
@[simp ↓] theorem e_sif : sif c s t δ b R = c δ b fun r b' => match r with
  | .ok k => if k = true then s δ b' R else t δ b' R
  | .error e => R (.er e) b' := by
  show c δ b _ = _
  congr 1
  funext r b'
  cases r with
  | error e => rfl
  | ok x => cases x <;> rfl
@[simp ↓] theorem e_sasg {n : Nat} : sasg n f = slift f fun d δ b R => R (.nx (δ.set n (some (.val d)))) b := id rfl
@[simp ↓] theorem e_sasgF {n : Nat} : sasgF n fl = slift fl fun d δ b R => R (.nx (δ.set n (some (.own d)))) b := id rfl
@[simp ↓] theorem e_sasgT {G : TgW} : sasgT G f = slift f fun d δ b R => G d δ fun δ' => R (.nx δ') b := id rfl
@[simp ↓] theorem e_tgn {n : Nat} {K : Env → Prop} : tgn n d δ K = K (δ.set n (some (.val d))) := id rfl
@[simp ↓] theorem e_tgt {n : Nat} {G : TgsW} {K : Env → Prop} : tgt n G (.tuple ds) δ K = (ds.length = n ∧ G ds δ K) := id rfl
@[simp ↓] theorem e_tgs0 {K : Env → Prop} : tgs0 [] δ K = K δ := id rfl
@[simp ↓] theorem e_tgs1 {G : TgW} {G2 : TgsW} {K : Env → Prop} : tgs1 G G2 (d :: ds) δ K = G d δ fun δ1 => G2 ds δ1 K := id rfl
@[simp ↓] theorem e_srs {e : Er} : srs e δ b R = R (.er e) b := id rfl
@[simp ↓] theorem e_stry : stry s δ b R = s δ b fun o b' => match o with
  | .er e => R (.rt (.str (erTx e))) b'
  | o => R o b' := id rfl
@[simp ↓] theorem e_sfrz {n : Nat} : sfrz n s δ b R = match δ[n]? with
  | some (some (.own ds)) => s (δ.set n (some (.val (.list ds)))) b R
  | _ => s δ b R := id rfl
@[simp ↓] theorem e_sapp {n : Nat} : sapp n f δ b R = match δ[n]? with
  | some (some (.own ds)) => f δ b fun r b' => match r with
    | .ok d => ds.length < sizeLine ∧ R (.nx (δ.set n (some (.own (ds ++ [d]))))) b'
    | .error e => R (.er e) b'
  | _ => False := id rfl
@[simp ↓] theorem e_sext {n : Nat} : sext n f δ b R = match δ[n]? with
  | some (some (.own ds)) => f δ b fun r b' => match r with
    | .ok (.list es) => ds.length + es.length ≤ sizeLine ∧ R (.nx (δ.set n (some (.own (ds ++ es))))) b'
    | .ok _ => False
    | .error e => R (.er e) b'
  | _ => False := id rfl
@[simp ↓] theorem e_sfor {G : TgW} : sfor fl G s = slift fl fun ds => wFor G s ds := id rfl
@[simp ↓] theorem e_runB {n : Nat} {cs : List Cell} {R : Except Er D → Nat → Prop} : runB n s cs b R = s (startE n cs) b fun o b' => match o with
  | .nx _ => R (.ok .none) b'
  | .rt d => R (.ok d) b'
  | .er e => R (.error e) b'
  | .bk _ => False
  | .ct _ => False := id rfl
end

/-! ### walks -/
theorem wFor_ind {G : TgW} {s : SW} {R : Out → Nat → Prop} (I : List D → Env → Nat → Prop) (nil : ∀ δ b, I [] δ b → R (.nx δ) b)
    (step : ∀ (d : D) (ds : List D) (δ : Env) (b : Nat) (K : Env → Nat → Prop), I (d :: ds) δ b → (∀ δ' b', I ds δ' b' → K δ' b') → G d δ fun δ1 => s δ1 b fun o b' => match o with
      | .nx δ' => K δ' b'
      | .ct δ' => K δ' b'
      | .bk δ' => R (.nx δ') b'
      | .rt d => R (.rt d) b'
      | .er e => R (.er e) b') : ∀ (ds : List D) (δ : Env) (b : Nat), I ds δ b → wFor G s ds δ b R
  | [], δ, b, h => nil δ b h
  | d :: ds, δ, b, h => step d ds δ b (fun δ' b' => wFor G s ds δ' b' R) h fun δ' b' h' => wFor_ind I nil step ds δ' b' h'
/-- .. by how many are behind -/
theorem wFor_at {G : TgW} {s : SW} {R : Out → Nat → Prop} {ds : List D} (I : Nat → Env → Nat → Prop) (nil : ∀ δ b, I ds.length δ b → R (.nx δ) b)
    (step : ∀ (i : Nat) (d : D) (δ : Env) (b : Nat) (K : Env → Nat → Prop), ds[i]? = some d → I i δ b → (∀ δ' b', I (i + 1) δ' b' → K δ' b') → G d δ fun δ1 => s δ1 b fun o b' => match o with
      | .nx δ' => K δ' b'
      | .ct δ' => K δ' b'
      | .bk δ' => R (.nx δ') b'
      | .rt d => R (.rt d) b'
      | .er e => R (.er e) b') {δ : Env} {b : Nat} (h : I 0 δ b) : wFor G s ds δ b R := by
  refine wFor_ind (fun l δ b => ∃ i, i + l.length = ds.length ∧ (∀ j, l[j]? = ds[i + j]?) ∧ I i δ b) (fun δ b ⟨i, e, _, h⟩ => ?_) (fun d l δ b K ⟨i, e, hj, h⟩ hk => ?_) ds δ b ⟨0, by simp, fun j => by simp, h⟩
  · have : i = ds.length := by simpa using e
    subst this
    exact nil δ b h
  · have e0 : ds[i]? = some d := by have := hj 0; simpa using this.symm
    exact step i d δ b K e0 h fun δ' b' h' => hk δ' b' ⟨i + 1, by simp at e; omega, fun j => by
      have := hj (j + 1)
      rw [List.getElem?_cons_succ] at this
      rw [this]; congr 1; omega, h'⟩
/-- a comprehension that draws nothing -/
theorem wComp_pure {G : TgW} {c : Env → Wp Bool} {e : Env → Wp D} {δ : Env} {b : Nat} (p : D → Bool) (F : D → D) : ∀ {ds : List D} {R : List D → Nat → Prop}
    (_ : ∀ d ∈ ds, ∀ (Rf : Nat → Prop) (Rt : D → Nat → Prop), (p d = false → Rf b) → (p d = true → Rt (F d) b) → G d δ fun δ1 => c δ1 b fun r b1 => match r with
      | .error _ => False
      | .ok false => Rf b1
      | .ok true => e δ1 b1 fun r b2 => match r with
        | .error _ => False
        | .ok y => Rt y b2), R ((ds.filter p).map F) b → wComp G c e ds δ b R
  | [], _, _, hr => hr
  | d :: ds, R, h, hr => by
    refine h d List.mem_cons_self (fun b1 => wComp G c e ds δ b1 R) (fun y b2 => wComp G c e ds δ b2 fun ys b3 => R (y :: ys) b3) (fun hp => ?_) fun hp => ?_
    · refine wComp_pure p F (fun d hd => h d (List.mem_cons_of_mem _ hd)) ?_
      rw [List.filter_cons, hp] at hr
      exact hr
    · refine wComp_pure p F (fun d hd => h d (List.mem_cons_of_mem _ hd)) ?_
      rw [List.filter_cons, hp] at hr
      exact hr
/-- a comprehension that draws at most m a turn, without a test -/
theorem wComp_draw {G : TgW} {e : Env → Wp D} {δ : Env} (m : Nat) (Pd : D → D → Prop) : ∀ {ds : List D} {b : Nat} {R : List D → Nat → Prop}
    (_ : ∀ d ∈ ds, ∀ (b : Nat) (Rt : D → Nat → Prop), m ≤ b → (∀ y b', Pd d y → b ≤ b' + m → Rt y b') → G d δ fun δ1 => e δ1 b fun r b2 => match r with
        | .error _ => False
        | .ok y => Rt y b2), ds.length * m ≤ b → (∀ ys b', Paired Pd ds ys → b ≤ b' + ds.length * m → R ys b') → wComp G wyes e ds δ b R
  | [], _, _, _, _, hr => hr [] _ .nil (by omega)
  | d :: ds, b, R, h, hb, hr => by
    rw [List.length_cons, Nat.succ_mul] at hb
    exact h d List.mem_cons_self b (fun y b2 => wComp G wyes e ds δ b2 fun ys b3 => R (y :: ys) b3) (by omega) fun y b' hy hb' => wComp_draw m Pd (fun d hd => h d (List.mem_cons_of_mem _ hd)) (by omega) fun ys b3 hp hb3 => hr (y :: ys) b3 (.cons hy hp) (by rw [List.length_cons, Nat.succ_mul]; omega)
end BB
set_option Elab.async false
set_option linter.all false
set_option maxRecDepth 100000
set_option autoImplicit false
set_option maxHeartbeats 2000000
/-! Bb17: bits. -/
namespace BB
open PySem PySem.Spec PyProof.Rows L2 HotX L2H

/-- a whole number's i-th bit -/
def ib (x : Int) (i : Nat) : Bool := decide (x / 2 ^ i % 2 = 1)
theorem ib_zero (x : Int) : ib x 0 = decide (x % 2 = 1) := by unfold ib; simp
theorem ib_succ (x : Int) (i : Nat) : ib x (i + 1) = ib (x / 2) i := by
  unfold ib
  rw [Int.pow_succ', ← Int.ediv_ediv_of_nonneg (by decide)]
theorem ib_and : ∀ (i : Nat) (x y : Int), ib (Builtin.bitAnd x y) i = (ib x i && ib y i)
  | 0, x, y => by
    rw [ib_zero, ib_zero, ib_zero, PySem.W.kbt_halves]
    by_cases h : x % 2 = 1 ∧ y % 2 = 1
    · rw [if_pos h]
      have : (2 * Builtin.bitAnd (x / 2) (y / 2) + 1) % 2 = 1 := by omega
      simp [this, h.1, h.2]
    · rw [if_neg h]
      have e : ¬ (2 * Builtin.bitAnd (x / 2) (y / 2) + 0) % 2 = 1 := by omega
      have e2 : (decide (x % 2 = 1) && decide (y % 2 = 1)) = false := by
        rw [Bool.and_eq_false_iff]
        by_cases h1 : x % 2 = 1
        · exact .inr (decide_eq_false fun z => h ⟨h1, z⟩)
        · exact .inl (decide_eq_false h1)
      rw [e2]; exact decide_eq_false e
  | i + 1, x, y => by
    rw [ib_succ, ib_succ, ib_succ, ← ib_and i]
    congr 1
    rw [PySem.W.kbt_halves x y]
    split <;> omega
theorem ib_not : ∀ (i : Nat) (x : Int), ib (Builtin.bitNot x) i = !ib x i
  | 0, x => by
    rw [ib_zero, ib_zero]
    have e : Builtin.bitNot x = -x - 1 := rfl
    rw [e]
    by_cases h : x % 2 = 1
    · have h2 : ¬ (-x - 1) % 2 = 1 := by omega
      simp [h, h2]
    · have h2 : (-x - 1) % 2 = 1 := by omega
      simp [h, h2]
  | i + 1, x => by
    rw [ib_succ, ib_succ, ← ib_not i]
    congr 1
    show (-x - 1) / 2 = -(x / 2) - 1
    omega
theorem ib_or (i : Nat) (x y : Int) : ib (Builtin.bitOr x y) i = (ib x i || ib y i) := by
  show ib (Builtin.bitNot (Builtin.bitAnd (Builtin.bitNot x) (Builtin.bitNot y))) i = _
  rw [ib_not, ib_and, ib_not, ib_not]
  cases ib x i <;> cases ib y i <;> rfl
theorem ib_ext : ∀ {x y : Int}, (∀ i, ib x i = ib y i) → x = y := by
  have key : ∀ (n : Nat) (x y : Int), x.natAbs + y.natAbs ≤ n → (∀ i, ib x i = ib y i) → x = y := by
    intro n
    induction n with
    | zero => intro x y h _; omega
    | succ n ih =>
      intro x y hn h
      have h0 := h 0
      rw [ib_zero, ib_zero] at h0
      have h1 : x % 2 = 1 ↔ y % 2 = 1 := by simpa using h0
      by_cases t : (x = 0 ∨ x = -1) ∧ (y = 0 ∨ y = -1)
      · omega
      · have h2 := ih (x / 2) (y / 2) (by omega) fun i => by have := h (i + 1); rwa [ib_succ, ib_succ] at this
        omega
  exact fun {x y} h => key _ x y (Nat.le_refl _) h
/-- x lies within y -/
def sub (x y : Int) : Prop := ∀ i, ib x i = true → ib y i = true
theorem ib_0 (i : Nat) : ib 0 i = false := by unfold ib; simp
theorem ib_m1 (i : Nat) : ib (-1) i = true := by
  have e : (-1 : Int) = Builtin.bitNot 0 := rfl
  rw [e, ib_not, ib_0]; rfl
theorem zero_iff {x : Int} : x = 0 ↔ ∀ i, ib x i = false := ⟨fun h i => by rw [h]; exact ib_0 i, fun h => ib_ext fun i => by rw [h i, ib_0]⟩
theorem ne_zero_iff {x : Int} : x ≠ 0 ↔ ∃ i, ib x i = true := by
  constructor
  · intro h
    refine Classical.byContradiction fun z => h (zero_iff.2 fun i => ?_)
    cases e : ib x i with
    | false => rfl
    | true => exact absurd ⟨i, e⟩ z
  · rintro ⟨i, e⟩ z
    rw [z, ib_0] at e; cases e
theorem diff_zero {x y : Int} : Builtin.bitAnd x (Builtin.bitNot y) = 0 ↔ sub x y := by
  rw [zero_iff]
  constructor
  · intro h i hx
    have := h i
    rw [ib_and, ib_not, hx] at this
    simpa using this
  · intro h i
    rw [ib_and, ib_not]
    cases e : ib x i with
    | false => rfl
    | true => rw [h i e]; rfl
theorem and_eq_sub {x y : Int} : Builtin.bitAnd x y = x ↔ sub x y := by
  constructor
  · intro h i hx
    have := ib_and i x y
    rw [h, hx] at this
    simpa using this.symm
  · intro h
    refine ib_ext fun i => ?_
    rw [ib_and]
    cases e : ib x i with
    | false => rfl
    | true => rw [h i e]; rfl
theorem sub_rfl {x : Int} : sub x x := fun _ h => h
theorem sub_tr {x y z : Int} (h : sub x y) (h' : sub y z) : sub x z := fun i e => h' i (h i e)
theorem sub_anti {x y : Int} (h : sub x y) (h' : sub y x) : x = y := ib_ext fun i => by
  cases e : ib x i with
  | true => exact (h i e).symm
  | false =>
    cases e' : ib y i with
    | true => rw [h' i e'] at e; cases e
    | false => rfl
theorem and_sub_l {x y : Int} : sub (Builtin.bitAnd x y) x := fun i e => by
  rw [ib_and] at e
  cases q : ib x i with
  | true => rfl
  | false => rw [q] at e; cases e
theorem and_sub_r {x y : Int} : sub (Builtin.bitAnd x y) y := fun i e => by
  rw [ib_and] at e
  cases q : ib y i with
  | true => rfl
  | false => rw [q, Bool.and_false] at e; cases e
theorem sub_and {x y z : Int} (h : sub x y) (h' : sub x z) : sub x (Builtin.bitAnd y z) := fun i e => by rw [ib_and, h i e, h' i e]; rfl
/-! the numbers below 2 ^ n -/
theorem ib_lt {x : Int} {n : Nat} (h0 : 0 ≤ x) (h : x < 2 ^ n) {i : Nat} (hi : n ≤ i) : ib x i = false := by
  unfold ib
  have h1 : (2 : Int) ^ n ≤ 2 ^ i := by exact_mod_cast Nat.pow_le_pow_right (by decide) hi
  have : x / 2 ^ i = 0 := Int.ediv_eq_zero_of_lt h0 (by omega)
  rw [this]; rfl
theorem nonneg_of {x : Int} {n : Nat} (h : ∀ i, n ≤ i → ib x i = false) : 0 ≤ x ∧ x < 2 ^ n := by
  induction n generalizing x with
  | zero =>
    have : x = 0 := zero_iff.2 fun i => h i (Nat.zero_le _)
    subst this; exact ⟨by decide, by decide⟩
  | succ n ih =>
    have := ih (x := x / 2) fun i hi => by rw [← ib_succ]; exact h (i + 1) (by omega)
    have e : (2 : Int) ^ (n + 1) = 2 * 2 ^ n := by rw [Int.pow_succ']
    omega
theorem in_range {x : Int} {n : Nat} : (0 ≤ x ∧ x < 2 ^ n) ↔ ∀ i, n ≤ i → ib x i = false := ⟨fun ⟨h0, h⟩ i hi => ib_lt h0 h hi, nonneg_of⟩
theorem and_range {x y : Int} {n : Nat} (h : 0 ≤ x ∧ x < 2 ^ n) : 0 ≤ Builtin.bitAnd x y ∧ Builtin.bitAnd x y < 2 ^ n := by
  rw [in_range] at h ⊢
  intro i hi
  rw [ib_and, h i hi]; rfl
theorem or_range {x y : Int} {n : Nat} (h : 0 ≤ x ∧ x < 2 ^ n) (h' : 0 ≤ y ∧ y < 2 ^ n) : 0 ≤ Builtin.bitOr x y ∧ Builtin.bitOr x y < 2 ^ n := by
  rw [in_range] at h h' ⊢
  intro i hi
  rw [ib_or, h i hi, h' i hi]; rfl
/-! ### more equations -/
@[simp ↓] theorem e_wipe0 {δ : Env} : wipeE δ [] = δ := id rfl
@[simp ↓] theorem e_wipe1 {δ : Env} {v : Nat} {vs : List Nat} : wipeE δ (v :: vs) = (wipeE δ vs).set v none := id rfl
@[simp] theorem atI_0 {α : Type} {a : α} {l : List α} : atI (a :: l) 0 = some a := by
  unfold L2.atI ixN
  simp
@[simp] theorem atI_1 {α : Type} {a b : α} {l : List α} : atI (a :: b :: l) 1 = some b := by
  unfold L2.atI ixN
  rw [if_pos (by decide), if_pos (by simp only [List.length_cons]; omega)]
  rfl
@[simp] theorem atI_2 {α : Type} {a b c : α} {l : List α} : atI (a :: b :: c :: l) 2 = some c := by
  unfold L2.atI ixN
  rw [if_pos (by decide), if_pos (by simp only [List.length_cons]; omega)]
  rfl
theorem atI_nat {α : Type} {l : List α} {i : Nat} {x : α} (h : l[i]? = some x) : atI l (i : Int) = some x := by
  have hl := (List.getElem?_eq_some_iff.1 h).1
  have e : ixN l.length (i : Int) = some i := by
    unfold ixN
    simp [hl]
  unfold L2.atI
  rw [e]; exact h
theorem shl1 {m : Int} (h : 0 ≤ m) (h2 : m ≤ 1000) : CShl 1 m := by
  refine ⟨h, ?_⟩
  have : (Builtin.Int.intBits 1 : Int) = 1 := by decide
  omega
theorem small_big {i : Int} (h0 : 0 ≤ i) (h : i ≤ 1000000) : big62 i := ⟨by omega, by omega⟩
theorem szl {n : Nat} (h : n ≤ 1000000) : n ≤ sizeLine := Nat.le_trans h (by decide)
theorem szl' {n : Nat} (h : n ≤ 1000000) : n < sizeLine := Nat.lt_of_le_of_lt h (by decide)
@[simp] theorem eqv_int {a b : Int} : PyData.eqv (.int a) (.int b) = (a == b) := by simp [PyData.eqv]
@[simp] theorem shaped_int {a : Int} : SeqAt.shaped (.int a) = true := rfl
@[simp] theorem okE_int {a c : Int} : okE (.int a) (.int c) = True := by simp [okE]
@[simp] theorem okE_str {a c : Str} : okE (.str a) (.str c) = True := rfl
theorem okE_of {d e : D} (h : SeqAt.shaped d = true) (k : SeqAt.shaped e = true) : okE d e := by
  unfold okE
  split
  · trivial
  · exact ⟨h, k⟩
/-! ### walks over data of one kind -/
theorem wComp_xs {α : Type} (enc : α → D) {G : TgW} {c : Env → Wp Bool} {e : Env → Wp D} {δ : Env} {b : Nat} (p : α → Bool) (F : α → D) : ∀ {xs : List α} {R : List D → Nat → Prop}
    (_ : ∀ x ∈ xs, ∀ (Rf : Nat → Prop) (Rt : D → Nat → Prop), (p x = false → Rf b) → (p x = true → Rt (F x) b) → G (enc x) δ fun δ1 => c δ1 b fun r b1 => match r with
      | .error _ => False
      | .ok false => Rf b1
      | .ok true => e δ1 b1 fun r b2 => match r with
        | .error _ => False
        | .ok y => Rt y b2), R ((xs.filter p).map F) b → wComp G c e (xs.map enc) δ b R
  | [], _, _, hr => hr
  | x :: xs, R, h, hr => by
    refine h x List.mem_cons_self (fun b1 => wComp G c e (xs.map enc) δ b1 R) (fun y b2 => wComp G c e (xs.map enc) δ b2 fun ys b3 => R (y :: ys) b3) (fun hp => ?_) fun hp => ?_
    · refine wComp_xs enc p F (fun d hd => h d (List.mem_cons_of_mem _ hd)) ?_
      rw [List.filter_cons, hp] at hr
      exact hr
    · refine wComp_xs enc p F (fun d hd => h d (List.mem_cons_of_mem _ hd)) ?_
      rw [List.filter_cons, hp] at hr
      exact hr
/-- .. without a test -/
theorem wComp_all {α : Type} (enc : α → D) {G : TgW} {e : Env → Wp D} {δ : Env} {b : Nat} (F : α → D) {xs : List α} {R : List D → Nat → Prop}
    (h : ∀ x ∈ xs, ∀ (Rt : D → Nat → Prop), Rt (F x) b → G (enc x) δ fun δ1 => e δ1 b fun r b2 => match r with
        | .error _ => False
        | .ok y => Rt y b2) (hr : R (xs.map F) b) : wComp G wyes e (xs.map enc) δ b R :=
  wComp_xs enc (fun _ => true) F (fun x hx Rf Rt _ ht => h x hx Rt (ht rfl)) (by rw [List.filter_eq_self.2 fun _ _ => rfl]; exact hr)
theorem wFor_xs {α : Type} (enc : α → D) {G : TgW} {s : SW} {R : Out → Nat → Prop} (I : List α → Env → Nat → Prop) (nil : ∀ δ b, I [] δ b → R (.nx δ) b)
    (step : ∀ (x : α) (xs : List α) (δ : Env) (b : Nat) (K : Env → Nat → Prop), I (x :: xs) δ b → (∀ δ' b', I xs δ' b' → K δ' b') → G (enc x) δ fun δ1 => s δ1 b fun o b' => match o with
      | .nx δ' => K δ' b'
      | .ct δ' => K δ' b'
      | .bk δ' => R (.nx δ') b'
      | .rt d => R (.rt d) b'
      | .er e => R (.er e) b') : ∀ {xs : List α} {δ : Env} {b : Nat}, I xs δ b → wFor G s (xs.map enc) δ b R
  | [], δ, b, h => nil δ b h
  | x :: xs, δ, b, h => step x xs δ b (fun δ' b' => wFor G s (xs.map enc) δ' b' R) h fun δ' b' h' => wFor_xs enc I nil step h'
theorem wFor_en {α : Type} (enc : α → D) {G : TgW} {s : SW} {R : Out → Nat → Prop} (I : Nat → List α → Env → Nat → Prop) (nil : ∀ i δ b, I i [] δ b → R (.nx δ) b)
    (step : ∀ (i : Nat) (x : α) (xs : List α) (δ : Env) (b : Nat) (K : Env → Nat → Prop), I i (x :: xs) δ b → (∀ δ' b', I (i + 1) xs δ' b' → K δ' b') → G (.tuple [.int i, enc x]) δ fun δ1 => s δ1 b fun o b' => match o with
      | .nx δ' => K δ' b'
      | .ct δ' => K δ' b'
      | .bk δ' => R (.nx δ') b'
      | .rt d => R (.rt d) b'
      | .er e => R (.er e) b') : ∀ {i : Nat} {xs : List α} {δ : Env} {b : Nat}, I i xs δ b → wFor G s (enumD i (xs.map enc)) δ b R
  | i, [], δ, b, h => nil i δ b h
  | i, x :: xs, δ, b, h => step i x xs δ b (fun δ' b' => wFor G s (enumD (i + 1) (xs.map enc)) δ' b' R) h fun δ' b' h' => wFor_en enc I nil step h'
end BB
set_option Elab.async false
set_option linter.all false
set_option maxRecDepth 100000
set_option autoImplicit false
set_option maxHeartbeats 2000000
/-! Bb18: small data, their texts, when they are equal. -/
namespace BB
open PySem PySem.Spec PyProof.Rows L2 HotX L2H

/-- data of a bounded depth and weight, of short numbers -/
structure Sm (dp wt : Nat) (d : D) : Prop where
  lay : d.canLay0 = true
  dep : d.depth ≤ dp
  wei : d.weight ≤ wt
  sho : d.intsShort 13 = true
  vis : d.showable = true
theorem Sm.mono {a b c e : Nat} {d : D} (h : Sm a b d) (h1 : a ≤ c) (h2 : b ≤ e) : Sm c e d := ⟨h.lay, Nat.le_trans h.dep h1, Nat.le_trans h.wei h2, h.sho, h.vis⟩
theorem sm_int {i : Int} (h1 : -999999999999 ≤ i) (h2 : i ≤ 999999999999) : Sm 0 40 (.int i) := by
  refine ⟨rfl, Nat.le_refl _, ?_, decide_eq_true (PyData.shown_int_le2 h1 h2), decide_eq_true ?_⟩
  show (if i == 0 then 0 else i.natAbs.log2 + 1) ≤ 40
  split
  · omega
  · rename_i h
    have hn : i.natAbs ≠ 0 := by
      intro z
      apply h
      have : i = 0 := by omega
      simp [this]
    have : i.natAbs.log2 < 40 := (Nat.log2_lt hn).2 (by omega)
    omega
  · by_cases hn : i.natAbs = 0
    · rw [hn]; decide
    · have : i.natAbs.log2 < 40 := (Nat.log2_lt hn).2 (by omega)
      omega
theorem sm_bool {b : Bool} : Sm 0 0 (.bool b) := ⟨rfl, Nat.le_refl _, Nat.le_refl _, rfl, rfl⟩
theorem sm_none : Sm 0 0 .none := ⟨rfl, Nat.le_refl _, Nat.le_refl _, rfl, rfl⟩
theorem sm_str {x : Str} {n : Nat} (h : PyData.strOk x = true) (hl : x.cps.size ≤ n) : Sm 0 n (.str x) := ⟨h, Nat.le_refl _, hl, rfl, rfl⟩
theorem sm_all {dp wt : Nat} : ∀ {ds : List D}, (∀ d ∈ ds, Sm dp wt d) → PyData.canLayAll0 ds = true ∧ PyData.depthAll ds ≤ dp ∧ PyData.weightAll ds ≤ ds.length * (wt + 1) ∧ PyData.intsShortAll 13 ds = true ∧ PyData.showableAll ds = true
  | [], _ => ⟨rfl, Nat.zero_le _, Nat.zero_le _, rfl, rfl⟩
  | d :: ds, h => by
    obtain ⟨a, b, c, e, v⟩ := sm_all fun x hx => h x (List.mem_cons_of_mem _ hx)
    have k := h d List.mem_cons_self
    refine ⟨?_, ?_, ?_, ?_, ?_⟩
    · show (PyData.canLay0 d && PyData.canLayAll0 ds) = true
      rw [k.lay, a]; rfl
    · show max (PyData.depth d) (PyData.depthAll ds) ≤ dp
      exact Nat.max_le.2 ⟨k.dep, b⟩
    · show PyData.weight d + 1 + PyData.weightAll ds ≤ (ds.length + 1) * (wt + 1)
      have := k.wei
      rw [Nat.add_mul]; omega
    · show (PyData.intsShort 13 d && PyData.intsShortAll 13 ds) = true
      rw [k.sho, e]; rfl
    · show (PyData.showable d && PyData.showableAll ds) = true
      rw [k.vis, v]; rfl
theorem sm_tuple {dp wt n : Nat} {ds : List D} (h : ∀ d ∈ ds, Sm dp wt d) (hn : ds.length ≤ n) : Sm (dp + 1) (n * (wt + 1)) (.tuple ds) := by
  obtain ⟨a, b, c, e, v⟩ := sm_all h
  exact ⟨a, Nat.add_le_add_right b 1, Nat.le_trans c (Nat.mul_le_mul_right _ hn), e, v⟩
theorem sm_list {dp wt n : Nat} {ds : List D} (h : ∀ d ∈ ds, Sm dp wt d) (hn : ds.length ≤ n) : Sm (dp + 1) (n * (wt + 1)) (.list ds) := by
  obtain ⟨a, b, c, e, v⟩ := sm_all h
  exact ⟨a, Nat.add_le_add_right b 1, Nat.le_trans c (Nat.mul_le_mul_right _ hn), e, v⟩
theorem Sm.shaped {dp wt : Nat} {d : D} (h : Sm dp wt d) (hd : dp ≤ 64) : SeqAt.shaped d = true := by
  show (d.canLay0 && decide (d.depth ≤ 64)) = true
  rw [h.lay, decide_eq_true (Nat.le_trans h.dep hd)]; rfl
theorem Sm.laid {dp wt : Nat} {d : D} (h : Sm dp wt d) (hd : dp ≤ 64) (hw : wt ≤ 2 ^ 20) : d.layable0 = true := by
  show (d.canLay0 && decide (d.depth ≤ 64) && decide (d.weight ≤ 2 ^ 20)) = true
  rw [h.lay, decide_eq_true (Nat.le_trans h.dep hd), decide_eq_true (Nat.le_trans h.wei hw)]; rfl
theorem Sm.repr {dp wt : Nat} {d : D} (h : Sm dp wt d) (hd : dp ≤ 60) (hw : wt ≤ 2 ^ 20) : reprOk d :=
  ⟨h.vis, PyData.hasDict_of_canLay d h.lay, Nat.le_trans h.dep hd, Nat.le_trans (PyProof.Rows.shown_le13 (h.laid (by omega) hw) h.sho) (by decide)⟩
/-! when data without bools are equal -/
mutual
def noB : D → Bool
  | .bool _ => false
  | .dict _ => false
  | .list xs => noBs xs
  | .tuple xs => noBs xs
  | _ => true
def noBs : List D → Bool
  | [] => true
  | x :: xs => noB x && noBs xs
end
mutual
theorem eqv_iff : ∀ {a c : D}, noB a = true → noB c = true → (PyData.eqv a c = true ↔ a = c)
  | .none, c, _, _ => by cases c <;> simp [PyData.eqv]
  | .int i, c, _, hc => by cases c <;> simp_all [PyData.eqv, noB]
  | .str x, c, _, _ => by cases c <;> simp [PyData.eqv]
  | .list xs, c, ha, hc => by
    cases c with
    | list ys =>
      have := eqvs_iff (xs := xs) (ys := ys) (by simpa [noB] using ha) (by simpa [noB] using hc)
      simp [PyData.eqv, this]
    | _ => simp [PyData.eqv]
  | .tuple xs, c, ha, hc => by
    cases c with
    | tuple ys =>
      have := eqvs_iff (xs := xs) (ys := ys) (by simpa [noB] using ha) (by simpa [noB] using hc)
      simp [PyData.eqv, this]
    | _ => simp [PyData.eqv]
  | .bool _, _, h, _ => by simp [noB] at h
  | .dict _, _, h, _ => by simp [noB] at h
theorem eqvs_iff : ∀ {xs ys : List D}, noBs xs = true → noBs ys = true → (PyData.eqvAll xs ys = true ↔ xs = ys)
  | [], [], _, _ => by simp [PyData.eqvAll]
  | [], y :: ys, _, _ => by simp [PyData.eqvAll]
  | x :: xs, [], _, _ => by simp [PyData.eqvAll]
  | x :: xs, y :: ys, ha, hc => by
    simp only [noBs, Bool.and_eq_true] at ha hc
    simp [PyData.eqvAll, eqv_iff ha.1 hc.1, eqvs_iff ha.2 hc.2]
end
mutual
theorem eqv_rfl : ∀ {d : D}, d.canLay0 = true → PyData.eqv d d = true
  | .none, _ => rfl
  | .bool _, _ => by simp [PyData.eqv]
  | .int _, _ => by simp [PyData.eqv]
  | .str _, _ => by simp [PyData.eqv]
  | .list xs, h => by show PyData.eqvAll xs xs = true; exact eqvs_rfl (ds := xs) h
  | .tuple xs, h => by show PyData.eqvAll xs xs = true; exact eqvs_rfl (ds := xs) h
  | .dict _, h => by cases h
theorem eqvs_rfl : ∀ {ds : List D}, PyData.canLayAll0 ds = true → PyData.eqvAll ds ds = true
  | [], _ => rfl
  | d :: ds, h => by
    have h' : (PyData.canLay0 d && PyData.canLayAll0 ds) = true := h
    rw [Bool.and_eq_true] at h'
    show (PyData.eqv d d && PyData.eqvAll ds ds) = true
    rw [eqv_rfl h'.1, eqvs_rfl h'.2]; rfl
end
theorem eqv_ne {a c : D} (ha : noB a = true) (hc : noB c = true) (e : a ≠ c) : PyData.eqv a c = false := by
  cases q : PyData.eqv a c with
  | false => rfl
  | true => exact absurd ((eqv_iff ha hc).1 q) e
/-! lists of numbers -/
theorem flat_ints : ∀ ns : List Int, (ns.map PyData.int).all flatD = true
  | [] => rfl
  | n :: ns => by rw [List.map_cons, List.all_cons, flat_ints ns]; rfl
theorem any_ints (ns : List Int) (i : Int) : ((ns.map PyData.int).any fun z => PyData.eqv z (.int i)) = decide (i ∈ ns) := by
  induction ns with
  | nil => rfl
  | cons n ns ih =>
    rw [List.map_cons, List.any_cons, ih, eqv_int]
    by_cases e : n = i
    · subst e; simp
    · have e' : ¬ i = n := fun z => e z.symm
      simp [e, e']
theorem canLay_ints : ∀ ns : List Int, PyData.canLayAll0 (ns.map PyData.int) = true
  | [] => rfl
  | n :: ns => by
    show (PyData.canLay0 (.int n) && PyData.canLayAll0 (ns.map PyData.int)) = true
    rw [canLay_ints ns]; rfl
theorem depth_ints : ∀ ns : List Int, PyData.depthAll (ns.map PyData.int) = 0
  | [] => rfl
  | n :: ns => by
    show max 0 (PyData.depthAll (ns.map PyData.int)) = 0
    rw [depth_ints ns]; rfl
theorem shaped_ints (ns : List Int) : SeqAt.shaped (.list (ns.map PyData.int)) = true := by
  show (PyData.canLayAll0 (ns.map PyData.int) && decide (PyData.depthAll (ns.map PyData.int) + 1 ≤ 64)) = true
  rw [canLay_ints, depth_ints]; rfl
theorem shaped_intsT (ns : List Int) : SeqAt.shaped (.tuple (ns.map PyData.int)) = true := shaped_ints ns
@[simp] theorem e_inL {ns : List Int} {i : Int} {neg : Bool} {b : Nat} {R : Except Er D → Nat → Prop} : kIn neg (.int i) (.list (ns.map PyData.int)) b R = R (.ok (.bool (if neg then decide (i ∉ ns) else decide (i ∈ ns)))) b := by
  show (SeqAt.shaped (.int i) = true ∧ SeqAt.shaped (.list (ns.map PyData.int)) = true ∧ R _ b) = _
  rw [shaped_ints, shaped_int, any_ints]
  cases neg <;> simp
@[simp] theorem e_inT {ns : List Int} {i : Int} {neg : Bool} {b : Nat} {R : Except Er D → Nat → Prop} : kIn neg (.int i) (.tuple (ns.map PyData.int)) b R = R (.ok (.bool (if neg then decide (i ∉ ns) else decide (i ∈ ns)))) b := by
  show (flatD (.int i) = true ∧ (ns.map PyData.int).all flatD = true ∧ R _ b) = _
  rw [flat_ints, any_ints]
  cases neg <;> simp [flatD]
/-! told and due of one kind -/
/-- _law_same where both are the same -/
def specSame : Spec := fun cs b R => ∃ d e : D, cs = [.val d, .val e] ∧ d = e ∧ reprOk (.list [d]) ∧ R (.ok (.bool true)) b
end BB
set_option Elab.async false
set_option linter.all false
set_option maxRecDepth 100000
set_option autoImplicit false
set_option maxHeartbeats 2000000
/-! Bb19: one of several functions, called. -/
namespace BB
open PySem PySem.Spec PyProof.Rows L2 HotX L2H
section
variable {X : Cx} {S : Sg} {W : WX} {k : Nat} {e : Expr} {es fs : List Expr} {pos : Pos} {t : TA} {specs : List Spec}
/-- a value that keeps a promise over data when it is called -/
def Keeps (X : Cx) (S : Sg) (k : Nat) (v : V) (spec : Spec) : Prop := ∃ (f : Addr) (fd : FuncData) (ps : List Str), v = .ref f ∧ FnG X.prog X.w X.K X.mg X.base k f fd ps (spD X.K S.cls ps spec) ∧ PySem.W.keepIn X.K (.ref f) = true ∧ Binds X.K fd ps [] ∧
  ∀ (b : Nat) (R : Except Er D → Nat → Prop) (cs : List Cell), spec cs b R → cs.length = ps.length
/-- names of such -/
def SelX (X : Cx) (S : Sg) (k : Nat) (es : List Expr) (specs : List Spec) : Prop := ∃ (t : TA) (vs : List V), PA X es t ∧ (∀ σ H Q, Q vs H → t σ H Q) ∧ Paired (Keeps X S k) vs specs
theorem sel_nil : SelX X S k [] [] := ⟨tNil, [], pa_nil, fun _ _ _ h => h, .nil⟩
theorem sel_cons {j : Nat} {x : Str} {p : Pos} {ps : List Str} {spec : Spec} (F : DfE X.prog X.w X.K X.mg X.base S.cls j x ps spec) (hj : j ≤ k) (h : SelX X S k es specs) (hg : Gl X x := by rfl) (hd : (x == ("__debug__" : Str)) = false := by decide) : SelX X S k (.Name x p :: es) (spec :: specs) := by
  obtain ⟨f, fd, D, hl⟩ := F
  obtain ⟨t, vs, pa, q, P⟩ := h
  exact ⟨_, .ref f :: vs, pa_cons (pe_glob (v := .ref f) hg D.at_ rfl hd) pa, fun σ H Q z => q σ H _ z, .cons ⟨f, fd, ps, rfl, D.fn.mono hj, D.kp, D.bd, hl⟩ P⟩
/-- the callee an expression -/
def tSel (X : Cx) (k : Nat) (E : Sl → XK) (tf : TE) (t : TA) : TE := fun σ H Q => tf σ H fun y H1 => ∃ (f : Addr) (fd : FuncData) (ps : List Str) (sp : Sp), y = .ref f ∧ FnG X.prog X.w X.K X.mg X.base k f fd ps sp ∧ PySem.W.keepIn X.K (.ref f) = true ∧ Binds X.K fd ps [] ∧
  t σ H1 fun vs H2 => sp vs H2 Q (E σ)
theorem pe_callSel {fe : Expr} {tf : TE} {E : Sl → XK} (hf : PE X fe tf) (hr : Room k X.A) (gd : X.A.guards = some []) (hx : ∀ σ, PassesAt (L2N.CX X.prog X.w) X σ (E σ)) (ha : PA X (e :: es) t)
    (ht : eval (.Call fe (e :: es) [] pos) X.env = (do callWith pos (← eval fe X.env) [] (backTo pos (starEach (e :: es) X.env)) (backToKw pos (keywordEach [] X.env))) := by rfl)
    (he : starEach (e :: es) X.env = (false, eval e X.env) :: starEach es X.env := by rfl) (hpl : (backTo pos (starEach es X.env)).any (·.1) = false := by rfl) : PE X (.Call fe (e :: es) [] pos) (tSel X k E tf t) := by
  refine ⟨fun pins s σ H Q I h => ?_⟩
  refine Call_ (thn (hf.run pins s σ H _ I h) fun u s1 ⟨y, H1, I1, ry, f, fd, ps, sp, ey, F, hk, hb, q⟩ => ?_) ht
  subst ey
  obtain rfl : u = Value.ref f := ry
  exact PySem.W.callWith_K (h₀ := X.base) I1.ok.mod.kin hk (thn (ha.run pos pins s1 σ H1 _ I1 q) fun us s2 ⟨vs, H2, I2, r, q2⟩ => ⟨I2.kIn, run_fng F hr gd hb (hx σ) I2 r q2⟩) he hpl
/-- [f, g, ..][i](a, ..) -/
def wsel (fi : Env → Wp D) (fa : Env → Wp (List Cell)) (specs : List Spec) : Env → Wp D := fun δ => wbind (fi δ) fun d b R => match d with
  | .int i => ∃ sp, atI specs i = some sp ∧ wbind (fa δ) sp b R
  | _ => False
theorem paired_atI {α β : Type} {F : α → β → Prop} : ∀ {xs : List α} {ys : List β} {n : Nat} {y : β}, Paired F xs ys → ys[n]? = some y → ∃ x, xs[n]? = some x ∧ F x y
  | _, _, _, _, .nil, e => by simp at e
  | _, _, 0, _, .cons a _, e => by simp at e; subst e; exact ⟨_, rfl, a⟩
  | _, _, n + 1, _, .cons _ r, e => by
    obtain ⟨x, h1, h2⟩ := paired_atI (n := n) r (by simpa using e)
    exact ⟨x, by simpa using h1, h2⟩
theorem ex_sel {idx : Expr} {lp sp : Pos} {fi : Env → Wp D} {fa : Env → Wp (List Cell)} (G : Cxt X S W k) (hs : SelX X S k fs specs) (hi : EX X S W idx fi) (ha : AX X S W (e :: es) fa) (hsz : specs.length ≤ sizeLine := by exact szl (Nat.le_of_ble_eq_true rfl)) (hp : PlainIx idx := by exact fun _ _ => rfl)
    (ht : eval (.Call (.Subscript (.List fs lp) idx sp) (e :: es) [] pos) X.env = (do callWith pos (← eval (.Subscript (.List fs lp) idx sp) X.env) [] (backTo pos (starEach (e :: es) X.env)) (backToKw pos (keywordEach [] X.env))) := by rfl)
    (he : starEach (e :: es) X.env = (false, eval e X.env) :: starEach es X.env := by rfl) (hpl : (backTo pos (starEach es X.env)).any (·.1) = false := by rfl) : EX X S W (.Call (.Subscript (.List fs lp) idx sp) (e :: es) [] pos) (wsel fi fa specs) := by
  obtain ⟨tl, vs, pl, ql, P0⟩ := hs
  obtain ⟨ti, pi, qi⟩ := hi
  obtain ⟨ta, pa, qa⟩ := ha
  refine ⟨_, pe_callSel (k := k) (E := WE W) (pe_ix ix_list (pe_lst pl) pi hp) G.room G.gd (fun σ => L2N.passAt G.tk σ) pa ht he hpl, ?_⟩
  intro H0 δ σ F0 H b R Q rel hf P
  refine ql σ H _ ⟨by rw [Paired.length P0]; exact hsz, fun p hn => ?_⟩
  have rel1 : Rel S H0 δ σ F0 (upd H p (.lst vs)) b := rel.tmp hn
  refine qi H0 δ σ F0 _ b _ _ rel1 hf ⟨fun d b' r y F' H' q ex g o => ?_, fun er b' r F' H' q ex g => P.er er b' r F' H' q ex ((Go.tmp hn).tr rel1.sto g)⟩
  have g1 := (Go.tmp (S := S) (F := F0) (o := .lst vs) hn).tr rel1.sto g
  cases d with
  | int i =>
    obtain ⟨sp, hat, r⟩ := r
    have w := rel.ownNew rel hn (rel.sub.free hn)
    have hh : H' p = some (.lst vs) := g.fr p _ upd_same w.ns
    cases o
    have hv : ∃ v, atI vs i = some v ∧ Keeps X S k v sp := by
      unfold atI at hat ⊢
      rw [Paired.length P0]
      obtain ⟨j, hj, hg⟩ := Option.bind_eq_some_iff.1 hat
      obtain ⟨v, h1, h2⟩ := paired_atI P0 hg
      exact ⟨v, Option.bind_eq_some_iff.2 ⟨j, hj, h1⟩, h2⟩
    obtain ⟨v, hv, f, fd, ps, rfl, F, hk, hb, hl⟩ := hv
    refine ⟨p, vs, i, _, rfl, rfl, SqL.of hh, hv, f, fd, ps, _, rfl, F, hk, hb, ?_⟩
    refine qa H0 δ σ F' H' b' _ _ q r ⟨fun cs b2 r2 vs2 F2 H2 q2 ex2 g2 o2 => ?_, fun er b2 r2 F2 H2 q2 ex2 g2 => P.er er b2 r2 F2 H2 q2 (ex.tr ex2) (g1.tr q.sto g2)⟩
    have P' := P.at_ back_V q2 (ex.tr ex2) (g1.tr q.sto g2)
    have go : ∀ {F3 H3 : Hp} {b3 : Nat}, StOk S F3 H3 b3 → Ex F2 F3 → Ex F3 H3 → Fr S H2 H3 → (∀ a o, F3 a = some o → F2 a = some o ∨ H2 a = none) → Rel S H0 δ σ F3 H3 b3 := fun so x2 s2 f2 n2 => q2.go x2 s2 f2 so n2
    have len : vs2.length = cs.length := by
      have z : ArgsOk S F2 vs2 cs := o2
      exact Paired.length z
    refine ⟨by rw [len]; exact hl _ _ _ r2, S, F2, b2, cs, R, G.kS, rfl, q2.sub, q2.sto, o2, r2, ?_, ?_⟩
    · intro d b3 r3 v F3 H3 so x2 s2 f2 n2 hv
      exact P'.ok d b3 r3 v F3 H3 (go so x2 s2 f2 n2) x2 ⟨f2, n2⟩ hv
    · intro er b3 r3 F3 H3 so x2 s2 f2 n2
      exact P'.er er b3 r3 F3 H3 (go so x2 s2 f2 n2) x2 ⟨f2, n2⟩
  | _ => exact r.elim
end
@[simp ↓] theorem e_wsel {fi : Env → Wp D} {fa : Env → Wp (List Cell)} {specs : List Spec} {δ : Env} : wsel fi fa specs δ = wbind (fi δ) fun d b R => match d with
  | .int i => ∃ sp, atI specs i = some sp ∧ wbind (fa δ) sp b R
  | _ => False := id rfl
end BB
set_option Elab.async false
set_option linter.all false
set_option maxRecDepth 100000
set_option autoImplicit false
set_option maxHeartbeats 2000000
/-! Bb20: sorted(set(xs)), len(set(xs)) of a list of numbers. -/
namespace BB
open PySem PySem.Spec PyProof.Rows L2 HotX L2H
/-- a set as it is made -/
abbrev nuS (w : World) : Obj := { cls := .type "set", dict := none, data := .set #[] 0 (.fresh 0 0 (!w.params.followText "set-order")) }
section
variable {P : Program} {w : World} {A : Around} {E : Value → Shared → Prop} {s : Shared}
set_option maxRecDepth 100000 in
set_option maxHeartbeats 3200000 in
/-- set(l), l a list of numbers -/
theorem setL_call {l : Addr} {xs : Array Value} (ns : List Int) {Q : Value → Shared → Prop} (q0 : A.handled = none) (q1 : s.heap.IsList l xs) (q2 : IntsAre xs.toList ns) (q3 : ns.length + 1 < scanBound)
    (q : ∀ (h2 : Heap) (n c : Nat), SetR w h2 s.heap.objs.size (fun j => decide (j ∈ ns)) c → c ≤ ns.length → (∀ b o, s.heap.get? b = some o → h2.get? b = some o) → Q (.ref s.heap.objs.size) { s with heap := h2, toks := n }) :
    wpAny (model P w) A (call (.type "set") [.ref l]) Q E s := by
  have size : xs.size = ns.length := by
    have z := IntsAre.length q2
    rwa [Array.length_toList] at z
  obtain ⟨_, _, mr⟩ := F.called_set.mro
  have f1 := F.called_set.made
  have f2 := F.called_set.sub
  refine wpAny_call (codeAny_of_tree ?_)
  show wpAny _ _ (callAny (.type "set") _) _ _ _
  refine wpAny_pure ⟨Code.quiet_builtin _ (by decide +kernel), codeAny_builtin F.entry_type_call ?_⟩
  rw [Around.under_plain (weight_type_call_type "set" [.ref l] []) rfl]
  have f3 := F.called_set.notType
  have f4 := F.called_set.canCreate
  have f5 := F.typeCall_set_1 (.ref l)
  repeat (any_goals (first | assumption | wp_step))
  have made := code_set_led1 (P := P) (w := w) (A := A.in1) (s := s) (.ref l) (E := E) (Q₁ := fun u t => u = .ref s.heap.objs.size ∧ t = { s with heap := s.heap.push (nuS w) }) ⟨rfl, rfl⟩
  refine codeAny_mono made fun r t hr => ?_
  cases r with
  | error u => exact hr
  | ok fl =>
    cases fl with
    | ret u =>
      obtain ⟨rfl, rfl⟩ := hr
      have here : (s.heap.push (nuS w)).get? s.heap.objs.size = some (nuS w) := Heap.get?_push_size _ rfl
      have hT : Shared.TypeIs { s with heap := s.heap.push (nuS w) } (.ref s.heap.objs.size) "set" := ⟨_, here, rfl⟩
      have f6 := F.called_set.init.lookup
      have f7 := F.called_set.init.bind (.ref s.heap.objs.size)
      repeat (any_goals (first | assumption | wp_step))
      let End : Result → Shared → Prop := wants (fun u t => u = .none ∧ ∃ h2 n c, t = { s with heap := h2, toks := n } ∧ SetR w h2 s.heap.objs.size (fun j => decide (j ∈ ns)) c ∧ c ≤ ns.length ∧ (∀ b o, s.heap.get? b = some o → h2.get? b = some o)) E
      refine codeAny_mono (codeAny_call_builtin (R := End) F.called_set.init.plain F.entry_set_init (check_set_init_1 hT ?_)) fun r2 t2 e2 => ?_
      · obtain ⟨⟨oc, od, odd, osl⟩, at0, cl, n0, dt⟩ := q1
        simp only at cl dt
        subst cl; subst dt
        have at1 : (s.heap.push (nuS w)).get? l = some { cls := .type "list", dict := od, data := .seq xs n0, slots := osl } := Heap.get?_push_of_some _ at0
        have g1 := F.sub_list_set
        have g2 := F.sub_list_frozenset
        have g3 : (Value.type "list" == Value.type "dict") = false := by decide
        have isl : (s.heap.push (nuS w)).IsList l xs := ⟨_, at1, rfl, n0, rfl⟩
        unfold Builtin.«set.__init__» noKeywords Builtin.Frozenset.updateFrom
        generalize it : pyIter = IT
        wp_walk
        subst it
        refine wpAny_pyIter_list isl ?_
        refine wpAny_bind (wpAny_runValue ?_)
        have l0 : l < s.heap.objs.size := Heap.lt_size at0
        have hh : A.in1.in1.in1.handled = none := by simp [q0]
        have z1 : (s.heap.push (nuS w)).objs.size = s.heap.objs.size + 1 := Heap.size_push ..
        have ne1 : l ≠ (s.heap.push (nuS w)).objs.size := Nat.ne_of_lt (by rw [z1]; exact Nat.lt_succ_of_lt l0)
        have out1 : s.heap.objs.size ∉ [(s.heap.push (nuS w)).objs.size, l] := by
          rw [z1]
          intro z
          rcases List.mem_cons.1 z with z | z
          · exact absurd z (Nat.ne_of_lt (Nat.lt_succ_self _))
          · exact absurd (List.mem_singleton.1 z) (Nat.ne_of_gt l0)
        have vals : ∀ (i : Nat) (v : Value), xs[i]? = some v → ∃ k t, ns[i]? = some k ∧ v = .int k t := fun i v hv => by
          have hi : i < ns.length := by
            rw [← size]
            exact (Array.getElem?_eq_some_iff.mp hv).1
          obtain ⟨t, e⟩ := IntsAre.int_at q2 i v (by rwa [Array.getElem?_toList])
          rw [List.getD_eq_getElem?_getD, List.getElem?_eq_getElem hi] at e
          exact ⟨_, t, List.getElem?_eq_getElem hi, e⟩
        have W := (Walks.list hh (s.heap.push (nuS w)).objs.size l ne1 xs (prog := P) (w := w)).toS
        refine set_update_ints W s.heap.objs.size out1 ns size q3 vals (xs.size - 0) 0 _ (by omega) (Nat.zero_le _) ⟨⟨_, Heap.get?_push_size _ rfl, rfl, rfl⟩, isl.push _⟩ ?_ ?_
        · exact ⟨0, Nat.le_refl 0, setR_new_at (Heap.get?_push_of_some _ here)⟩
        · intro t2 c mv lc S2
          obtain ⟨h2, g2, d2, n2, o2⟩ := t2
          obtain rfl : g2 = s.gens := mv.gens
          obtain rfl : d2 = s.drawn := mv.drawn
          obtain rfl : o2 = s.os := mv.os
          show wpAny _ _ _ _ _ _
          refine wpAny_pure ?_
          show wpAny _ _ (ret Value.none) _ _ _
          refine wpAny_pure ⟨rfl, h2, n2, c, rfl, S2, by omega, fun b o e => ?_⟩
          have b0 : b < s.heap.objs.size := Heap.lt_size e
          refine mv.heap b o (fun z => ?_) (Heap.get?_push_of_some _ (Heap.get?_push_of_some _ e))
          rcases List.mem_cons.1 z with z | z
          · exact absurd z (Nat.ne_of_lt b0)
          · exact absurd ((List.mem_singleton.1 z).trans z1) (Nat.ne_of_lt (Nat.lt_succ_of_lt b0))
      · cases r2 with
        | error u => exact e2
        | ok fl2 =>
          cases fl2 with
          | ret u =>
            obtain ⟨rfl, h2, n2, c, rfl, S2, lc, kp⟩ := e2
            repeat (any_goals (first | assumption | wp_step))
            exact q _ _ _ S2 lc kp
          | _ => exact e2.elim
    | _ => exact hr.elim
end
end BB
set_option Elab.async false
set_option linter.all false
set_option maxRecDepth 100000
set_option autoImplicit false
set_option maxHeartbeats 2000000
/-! Bb21: sorted(set(xs)), len(set(xs)), read over data. -/
namespace BB
open PySem PySem.Spec PyProof.Rows L2 HotX L2H
section
variable {X : Cx} {S : Sg} {W : WX} {k : Nat} {a : Expr} {ta : TE} {p p2 q pos : Pos}
def rSortSet (K : PySem.W.Frag) (x : V) (H1 : Hp) (Q : VK) : Prop := ∃ (l : Addr) (ns : List Int), x = .ref l ∧ SqL K H1 l (ns.map V.int) ∧ ns.length < 64 ∧
  ∀ (ys : List Int) (n : Addr), ys.Pairwise (· < ·) → (∀ k, k ∈ ys ↔ k ∈ ns) → H1 n = none → Q (.ref n) (upd H1 n (.lst (ys.map V.int)))
def tSortSet (K : PySem.W.Frag) (ta : TE) : TE := fun σ H Q => ta σ H fun x H1 => rSortSet K x H1 Q
theorem pe_sortSet (hc : X.calm = true) (hg : Gl X "sorted") (hm : X.mg "sorted" = none) (hg2 : Gl X "set") (hm2 : X.mg "set" = none) (ha : PE X a ta) (na : starEach [a] X.env = (false, eval a X.env) :: starEach [] X.env := by rfl) : PE X (.Call (.Name "sorted" p) [.Call (.Name "set" p2) [a] [] q] [] pos) (tSortSet X.K ta) := by
  refine ⟨fun pins s σ H Q I h => ?_⟩
  refine Call_ (ld_blt I hg hm (show bootBuiltins "sorted" = some (.builtin "sorted") by decide +kernel) ?_)
  refine callWith_builtin1 (args_cons ?_ rfl) rfl rfl
  refine Call_ (ld_blt I hg2 hm2 boot_set ?_)
  refine callWith_type1 (args_cons (thn (ha.run pins s σ H _ I h) fun v s1 ⟨x, H1, I1, r1, q1⟩ => args_nil ?_) na) na rfl
  obtain ⟨l, ns, rfl, hq, few, q1⟩ := q1
  cases r1
  obtain ⟨its, r, pl, hz⟩ := I1.list hq
  refine setL_call ns (I1.ok.hd hc) pl.isList (ints_of_vals r) (by unfold scanBound; omega) fun h2 tk c R lc kp => args_nil ?_
  have I2 : Inv X pins σ H1 { s1 with heap := h2, toks := tk } := I1.kept fun b o e => kp b o e
  have R2 : SetR X.w ({ s1 with heap := h2, toks := tk } : Shared).heap s1.heap.objs.size (fun j => decide (j ∈ ns)) c := R
  generalize { s1 with heap := h2, toks := tk } = s2 at I2 R2 ⊢
  refine sorted_set R2 (I2.ok.hd hc) (by omega) fun t n out c2 ys k2 g2 o2 hn at2 iv srt mem2 len2 => ?_
  have fr : H1 n = none := I2.hok.fresh hn
  have small : (ys.map V.int).length ≤ sizeLine := by rw [List.length_map, len2, sizeLine_eq]; omega
  have J : Inv X pins σ (upd H1 n (.lst (ys.map V.int))) { s2 with heap := t.heap, gens := t.gens, drawn := t.drawn, toks := t.toks } :=
    I2.call (ch := []) (Un.laid k2 hn fr) (I2.hok.laid k2 hn ⟨small, out.toList, c2, vals_of_ints iv, at2⟩) (by rw [g2]; exact I2.bare) (fun _ z => nomatch z)
  have same : t = { s2 with heap := t.heap, gens := t.gens, drawn := t.drawn, toks := t.toks } := by
    cases t; cases s2; cases o2; rfl
  rw [same]
  exact ⟨.ref n, _, J, rfl, q1 ys n srt (fun j => (mem2 j).trans decide_eq_true_iff) fr⟩
def kSortedSet : D → Wp (List D) := fun x b R => ∃ ns : List Int, x = .list (ns.map PyData.int) ∧ ns.length < 64 ∧ ∀ ys : List Int, ys.Pairwise (· < ·) → (∀ k, k ∈ ys ↔ k ∈ ns) → R (.ok (ys.map PyData.int)) b
theorem ef_sortedSet {fa : Env → Wp D} (G : Cxt X S W k) (hm : X.mg "sorted" = none) (hm2 : X.mg "set" = none) (ha : ET X S W a fa) (hg : Gl X "sorted" := by rfl) (hg2 : Gl X "set" := by rfl) (na : starEach [a] X.env = (false, eval a X.env) :: starEach [] X.env := by rfl) :
    EF X S W (.Call (.Name "sorted" p) [.Call (.Name "set" p2) [a] [] q] [] pos) (wk kSortedSet fa) := by
  obtain ⟨ta, pa, qa⟩ := ha
  refine ⟨_, pe_sortSet G.calm hg hm hg2 hm2 pa na, ?_⟩
  refine dg_b1 (r := rSortSet X.K) back_F (fun H0 δ σ F H b R Q v x rel hx hf P => ?_) qa
  obtain ⟨ns, rfl, hz, hf⟩ := hf
  obtain ⟨l, vs, rfl, h1, r1⟩ := hx.lst rel.sub
  have e := r1.toInts
  subst e
  exact ⟨l, ns, rfl, SqL.of h1, hz, fun ys n h2 h3 hn => P.ok _ _ (hf ys h2 h3) _ _ _ (rel.tmp hn) Ex.rfl' (Go.tmp hn) ⟨n, _, rfl, hn, upd_same, rel.sub.free hn, IsDs.ints _⟩⟩
/-! len(set(xs)) -/
def rLenSet (K : PySem.W.Frag) (x : V) (H1 : Hp) (Q : VK) : Prop := ∃ (l : Addr) (ns : List Int), x = .ref l ∧ SqL K H1 l (ns.map V.int) ∧ ns.length < 1000 ∧
  ∀ ys : List Int, ys.Nodup → (∀ k, k ∈ ys ↔ k ∈ ns) → Q (.int ys.length) H1
def tLenSetI (K : PySem.W.Frag) (ta : TE) : TE := fun σ H Q => ta σ H fun x H1 => rLenSet K x H1 Q
theorem pe_lenSetI (hc : X.calm = true) (hg : Gl X "len") (hm : X.mg "len" = none) (hg2 : Gl X "set") (hm2 : X.mg "set" = none) (ha : PE X a ta) (na : starEach [a] X.env = (false, eval a X.env) :: starEach [] X.env := by rfl) : PE X (.Call (.Name "len" p) [.Call (.Name "set" p2) [a] [] q] [] pos) (tLenSetI X.K ta) := by
  refine ⟨fun pins s σ H Q I h => ?_⟩
  refine Call_ (ld_blt I hg hm boot_len ?_)
  refine callWith_builtin1 (args_cons ?_ rfl) rfl rfl
  refine Call_ (ld_blt I hg2 hm2 boot_set ?_)
  refine callWith_type1 (args_cons (thn (ha.run pins s σ H _ I h) fun v s1 ⟨x, H1, I1, r1, q1⟩ => args_nil ?_) na) na rfl
  obtain ⟨l, ns, rfl, hq, few, q1⟩ := q1
  cases r1
  obtain ⟨its, r, pl, hz⟩ := I1.list hq
  refine setL_call ns (I1.ok.hd hc) pl.isList (ints_of_vals r) (by unfold scanBound; omega) fun h2 tk c R lc kp => args_nil ?_
  have I2 : Inv X pins σ H1 { s1 with heap := h2, toks := tk } := I1.kept fun b o e => kp b o e
  obtain ⟨o, es, ep, t, ho, hex, hd, gd, nd, hm3, hb3, hf3, hn3, _⟩ := R
  refine call_len_set ho hex hd hf3 (by omega) ⟨.int es.size, H1, I2.tok _, ⟨_, rfl⟩, ?_⟩
  have z := q1 (es.toList.map keyOf) nd fun k => by rw [← hm3 k, decide_eq_true_eq]
  rw [List.length_map, Array.length_toList] at z
  exact z
def kLenSet : D → Wp D := fun x b R => ∃ ns : List Int, x = .list (ns.map PyData.int) ∧ ns.length < 1000 ∧ ∀ ys : List Int, ys.Nodup → (∀ k, k ∈ ys ↔ k ∈ ns) → R (.ok (.int ys.length)) b
theorem ex_lenSet {fa : Env → Wp D} (G : Cxt X S W k) (hm : X.mg "len" = none) (hm2 : X.mg "set" = none) (ha : ET X S W a fa) (hg : Gl X "len" := by rfl) (hg2 : Gl X "set" := by rfl) (na : starEach [a] X.env = (false, eval a X.env) :: starEach [] X.env := by rfl) :
    EX X S W (.Call (.Name "len" p) [.Call (.Name "set" p2) [a] [] q] [] pos) (wk kLenSet fa) := by
  obtain ⟨ta, pa, qa⟩ := ha
  refine ⟨_, pe_lenSetI G.calm hg hm hg2 hm2 pa na, ?_⟩
  refine dg_b1 (r := rLenSet X.K) back_V (fun H0 δ σ F H b R Q v x rel hx hf P => ?_) qa
  obtain ⟨ns, rfl, hz, hf⟩ := hf
  obtain ⟨l, vs, rfl, h1, r1⟩ := hx.lst rel.sub
  have e := r1.toInts
  subst e
  exact ⟨l, ns, rfl, SqL.of h1, hz, fun ys h2 h3 => P.now rel (hf ys h2 h3) (.int _)⟩
end
end BB
set_option Elab.async false
set_option linter.all false
set_option maxRecDepth 100000
set_option autoImplicit false
set_option maxHeartbeats 2000000
/-! Bb22: gcd(a, b); a, b = c, d. -/
namespace BB
open PySem PySem.Spec PyProof.Rows L2 HotX L2H
section
variable {X : Cx} {S : Sg} {W : WX} {k : Nat} {a b c : Expr} {p pos : Pos}
theorem ex_gcd {fa fb : Env → Wp D} (hm : X.mg "gcd" = some (.builtin "math.gcd")) (ha : ET X S W a fa) (hb : ET X S W b fb) (hg : Gl X "gcd" := by rfl) (he : starEach [a, b] X.env = (false, eval a X.env) :: starEach [b] X.env := by rfl) (he2 : starEach [b] X.env = (false, eval b X.env) :: starEach [] X.env := by rfl)
    (hpl : (backTo pos (starEach [b] X.env)).any (·.1) = false := by rfl) : EX X S W (.Call (.Name "gcd" p) [a, b] [] pos) (wb2 (wI2 CTrue fun i j => ((Nat.gcd i.natAbs j.natAbs : Nat) : Int)) fa fb) := by
  obtain ⟨t, pa, q⟩ := ha
  obtain ⟨u, pb, q'⟩ := hb
  refine ⟨_, pe_callBfun cr_gcd hg hm (pa_cons pa (pa_cons pb pa_nil he2) he) (by decide) he hpl, dg_b2 (r := fun x y H Q => rGcd [x, y] H Q) (fun H0 δ σ F H b R Q v u x y rel hx hy hf P => ?_) q q'⟩
  cases x with
  | int i =>
    cases y with
    | int j => exact ⟨i, j, by rw [TV.int hx, TV.int hy], P.now rel hf.2 (.int _)⟩
    | _ => exact hf.elim
  | _ => exact hf.elim
/-- x, y = a, b -/
def spar (i j : Nat) (f : Env → Wp (List D)) : SW := slift f fun ds δ b R => match ds with
  | [d, e] => R (.nx ((δ.set i (some (.val d))).set j (some (.val e)))) b
  | _ => False
theorem sx_par {i j : Nat} {x y : Str} {px py pt pt2 : Pos} {kt k2} {f : Env → Wp (List D)} (G : Cxt X S W k) (hi : X.N[i]? = some x) (hj : X.N[j]? = some y) (hij : i ≠ j) (hx : X.env.scope.names.lookup x = some .local) (hy : X.env.scope.names.lookup y = some .local) (h : LX X S W [a, b] f)
    (hw : swappedStores [.Tuple [.Name x px, .Name y py] kt pt] (.Tuple [a, b] k2 pt2) X.env = pure (some [x, y]) := by rfl) (hs : swapsWithSole [.Tuple [.Name x px, .Name y py] kt pt] (.Tuple [a, b] k2 pt2) pos.line X.env = pure false := by rfl) :
    SX X S W (.Assign [.Tuple [.Name x px, .Name y py] kt pt] (.Tuple [a, b] k2 pt2) pos) (spar i j f) := by
  obtain ⟨ta, pa, qa⟩ := h
  refine ⟨_, ps_par G.calm G.nd hi hj hij hx hy pa hw hs, ?_⟩
  refine ds_lift (tk := fun vs D' σ H => ∃ v w, vs = [v, w] ∧ D'.nx ((σ.set i (some v)).set j (some w)) H) qa fun H0 δ σ F1 H1 F H b1 b R D' vs ds r1 rel o hf P => ?_
  match ds, hf with
  | [d, e], hf =>
    cases o with
    | cons o1 r =>
      cases r with
      | cons o2 r =>
        cases r
        exact ⟨_, _, rfl, P.nx _ b hf _ F H ((rel.put i o1).put j o2) Ex.rfl'⟩
/-- .. three of them -/
def spar3 (i j l : Nat) (f : Env → Wp (List D)) : SW := slift f fun ds δ b R => match ds with
  | [d, e, g] => R (.nx (((δ.set i (some (.val d))).set j (some (.val e))).set l (some (.val g)))) b
  | _ => False
end
@[simp ↓] theorem e_spar {i j : Nat} {f : Env → Wp (List D)} : spar i j f = slift f fun ds δ b R => match ds with
  | [d, e] => R (.nx ((δ.set i (some (.val d))).set j (some (.val e)))) b
  | _ => False := id rfl
end BB
set_option Elab.async false
set_option linter.all false
set_option maxRecDepth 100000
set_option autoImplicit false
set_option maxHeartbeats 2000000
/-! Bb23: a dict of one's own, its keys ints or texts. -/
namespace BB
open PySem PySem.Spec PyProof.Rows L2 HotX L2H
def keyD : Key → D
  | .inl i => .int i
  | .inr x => .str x
def getD' (kvs : List (Key × D)) (k : Key) : Option D := (kvs.find? fun kv => decide (kv.1 = k)).map (·.2)
def putD (kvs : List (Key × D)) (k : Key) (d : D) : List (Key × D) :=
  if (kvs.any fun kv => decide (kv.1 = k)) = true then kvs.map (fun kv => if kv.1 = k then (kv.1, d) else kv) else kvs ++ [(k, d)]
theorem kv_get {F : Hp} {k : Key} : ∀ {ks : List (Key × V)} {kvs : List (Key × D)}, KvOk F ks kvs → (valV ks k).isSome = (getD' kvs k).isSome ∧ ∀ d, getD' kvs k = some d → ∃ v, valV ks k = some v ∧ IsD F v d
  | _, _, .nil => ⟨rfl, fun d z => by cases z⟩
  | _, _, .cons (a := (k1, v1)) (b := (k2, d2)) ⟨e, o⟩ r => by
    have e' : k1 = k2 := e
    subst e'
    obtain ⟨h1, h2⟩ := kv_get (k := k) r
    unfold valV getD' at *
    by_cases q : k1 = k
    · simp only [List.find?_cons, q, decide_true]
      exact ⟨rfl, fun d z => ⟨v1, rfl, by cases z; exact o⟩⟩
    · simp only [List.find?_cons, q, decide_false]
      exact ⟨h1, h2⟩
theorem kv_any {F : Hp} {k : Key} : ∀ {ks : List (Key × V)} {kvs : List (Key × D)}, KvOk F ks kvs → (ks.any fun kv => decide (kv.1 = k)) = (kvs.any fun kv => decide (kv.1 = k))
  | _, _, .nil => rfl
  | _, _, .cons ⟨e, _⟩ r => by rw [List.any_cons, List.any_cons, kv_any r, e]
theorem kv_map {F : Hp} {k : Key} {v : V} {d : D} (h : IsD F v d) : ∀ {ks : List (Key × V)} {kvs : List (Key × D)}, KvOk F ks kvs → KvOk F (ks.map fun kv => if kv.1 = k then (kv.1, v) else kv) (kvs.map fun kv => if kv.1 = k then (kv.1, d) else kv)
  | _, _, .nil => .nil
  | _, _, .cons (a := (k1, v1)) (b := (k2, d2)) ⟨e, o⟩ r => by
    have e' : k1 = k2 := e
    subst e'
    refine .cons ?_ (kv_map h r)
    by_cases q : k1 = k
    · simp only [q, if_true]; exact ⟨trivial, h⟩
    · simp only [q, if_false]; exact ⟨trivial, o⟩
theorem kv_app {F : Hp} {k : Key} {v : V} {d : D} (h : IsD F v d) : ∀ {ks : List (Key × V)} {kvs : List (Key × D)}, KvOk F ks kvs → KvOk F (ks ++ [(k, v)]) (kvs ++ [(k, d)])
  | _, _, .nil => .cons ⟨rfl, h⟩ .nil
  | _, _, .cons o r => .cons o (kv_app h r)
theorem kv_put {F : Hp} {k : Key} {v : V} {d : D} {ks : List (Key × V)} {kvs : List (Key × D)} (o : KvOk F ks kvs) (h : IsD F v d) : KvOk F (putK ks k v) (putD kvs k d) := by
  unfold putK putD
  rw [kv_any o]
  split
  · exact kv_map h o
  · exact kv_app h o
theorem kv_keys {F : Hp} : ∀ {ks : List (Key × V)} {kvs : List (Key × D)}, KvOk F ks kvs → ks.map (·.1) = kvs.map (·.1)
  | _, _, .nil => rfl
  | _, _, .cons ⟨e, _⟩ r => by rw [List.map_cons, List.map_cons, kv_keys r, e]
theorem kv_key {F : Hp} {y : V} {k : Key} (h : IsD F y (keyD k)) : y = kV k := by
  cases k with
  | inl i => cases h; rfl
  | inr x => cases h; rfl
section
variable {X : Cx} {S : Sg} {W : WX} {k : Nat} {a b e o : Expr} {p pos : Pos}
/-- x = {} -/
def sdnew (i : Nat) : SW := fun δ b R => R (.nx (δ.set i (some (.dk [])))) b
theorem sx_dnew {i : Nat} {x : Str} {pos' : Pos} (hN : X.N.Nodup) (hi : X.N[i]? = some x) (hx : Loc X.env.scope x) (hs : swapsWith (.Dict [] [] p) (some (.Name x pos')) pos.line X.env = pure false := by rfl)
    (hf : X.fn x = true ∨ X.env.scope.names.lookup x = some .local := by first | exact .inl rfl | exact .inr rfl | assumption) : SX X S W (.Assign [.Name x pos'] (.Dict [] [] p) pos) (sdnew i) := by
  refine ⟨_, ps_set hN hi hx pe_dnewK hs hf, fun H0 δ σ F H b R D' rel hf P => ?_⟩
  intro n hn
  have rel1 : Rel S H0 δ σ F (upd H n (.dK [])) b := rel.tmp hn
  exact P.nx _ b hf _ F _ (rel.putOwn rel1 i hn ⟨n, [], rfl, rel.ownNew rel hn (rel.sub.free hn), upd_same, .nil⟩ rfl) Ex.rfl'
/-- x[k] = e -/
def sdput (i : Nat) (fk fv : Env → Wp D) : SW := fun δ b R => match δ[i]? with
  | some (some (.dk kvs)) => fv δ b fun r b1 => match r with
    | .error er => R (.er er) b1
    | .ok d => fk δ b1 fun r b2 => match r with
      | .error er => R (.er er) b2
      | .ok y => ∃ key, y = keyD key ∧ kvs.length < sizeLine ∧ R (.nx (δ.set i (some (.dk (putD kvs key d))))) b2
  | _ => False
theorem sx_dput {i : Nat} {fk fv : Env → Wp D} {sp : Pos} (G : Cxt X S W k) (ho : PE X o (tVar i)) (hk : EX X S W a fk) (hv : EX X S W e fv) (hs : swapsWith e (some (.Subscript o a sp)) pos.line X.env = pure false := by rfl) :
    SX X S W (.Assign [.Subscript o a sp] e pos) (sdput i fk fv) := by
  obtain ⟨tk, pk, qk⟩ := hk
  obtain ⟨tv, pv, qv⟩ := hv
  refine ⟨_, ps_dput (by have := G.hu65; omega) ho pk pv hs, fun H0 δ σ F H b R D' rel hf P => ?_⟩
  have hi : ∃ kvs, δ[i]? = some (some (.dk kvs)) := by
    unfold sdput at hf
    split at hf
    · exact ⟨_, by assumption⟩
    · exact hf.elim
  obtain ⟨kvs, hd0⟩ := hi
  unfold sdput at hf
  rw [hd0] at hf
  refine qv H0 δ σ F H b _ _ rel hf ⟨fun d b1 r v F1 H1 q1 x1 g1 o1 => ?_, fun er b1 r F1 H1 q1 x1 g1 => P.er er b1 r δ σ F1 H1 q1 x1⟩
  obtain ⟨w1, e1, c1⟩ := q1.cell i _ hd0
  refine ⟨w1, e1, ?_⟩
  refine qk H0 δ σ F1 H1 b1 _ _ q1 r ⟨fun y b2 r2 u F2 H2 q2 x2 g2 o2 => ?_, fun er b2 r2 F2 H2 q2 x2 g2 => P.er er b2 r2 δ σ F2 H2 q2 (x1.tr x2)⟩
  obtain ⟨key, rfl, hl, r3⟩ := r2
  obtain ⟨w2, e2, n, ks, rfl, w, hn, hq⟩ := q2.cell i _ hd0
  rw [e1] at e2
  cases e2
  have hlen : ks.length = kvs.length := Paired.length hq
  refine ⟨n, _, rfl, by rw [kv_key o2]; exact DPut.k hn (by rw [hlen]; exact hl), ?_⟩
  exact P.nx _ b2 r3 σ F2 _ (q2.poke hd0 rfl e1 rfl ⟨n, _, rfl, w, upd_same, kv_put hq (o1.mono x2)⟩) (x1.tr x2)
/-- x in d, x not in d -/
def wdin (neg : Bool) (i : Nat) (fa : Env → Wp D) : Env → Wp Bool := fun δ => wbind (fa δ) fun y b R => match δ[i]? with
  | some (some (.dk kvs)) => ∃ key, y = keyD key ∧ R (.ok (if neg = true then !(getD' kvs key).isSome else (getD' kvs key).isSome)) b
  | _ => False
theorem bx_din {i : Nat} {fa : Env → Wp D} (G : Cxt X S W k) (ha : EX X S W a fa) (ho : PE X o (tVar i)) (h1 : behindInMarks .In o = false := by first | exact nobehind _ (by decide) (by decide) | rfl) : BX X S W (.Compare a [.In] [o] pos) (wdin false i fa) := by
  obtain ⟨ta, pa, qa⟩ := ha
  refine ⟨_, pt_cmp (pc_din (by have := G.hu65; omega) pa ho) h1, fun H0 δ σ F H b R Q rel hf P => ?_⟩
  refine qa H0 δ σ F H b _ _ rel hf ⟨fun y b1 r u F1 H1 q1 x1 g1 o1 => ?_, fun er b1 r F1 H1 q1 x1 g1 => P.er er b1 r F1 H1 q1 x1 g1⟩
  dsimp only at r
  split at r
  · rename_i kvs hd0
    obtain ⟨key, rfl, r⟩ := r
    obtain ⟨w1, e1, n, ks, rfl, w, hn, hq⟩ := q1.cell i _ hd0
    refine ⟨_, e1, n, _, rfl, by rw [kv_key o1]; exact DGet.k hn, _, rfl, ?_⟩
    rw [(kv_get (k := key) hq).1]
    exact P.ok _ b1 r _ F1 H1 q1 x1 g1 rfl
  · exact r.elim
theorem bx_dnotin {i : Nat} {fa : Env → Wp D} (G : Cxt X S W k) (ha : EX X S W a fa) (ho : PE X o (tVar i)) (h1 : behindInMarks .NotIn o = false := by first | exact nobehind _ (by decide) (by decide) | rfl) : BX X S W (.Compare a [.NotIn] [o] pos) (wdin true i fa) := by
  obtain ⟨ta, pa, qa⟩ := ha
  refine ⟨_, pt_cmp (pc_dnotin (by have := G.hu65; omega) pa ho) h1, fun H0 δ σ F H b R Q rel hf P => ?_⟩
  refine qa H0 δ σ F H b _ _ rel hf ⟨fun y b1 r u F1 H1 q1 x1 g1 o1 => ?_, fun er b1 r F1 H1 q1 x1 g1 => P.er er b1 r F1 H1 q1 x1 g1⟩
  dsimp only at r
  split at r
  · rename_i kvs hd0
    obtain ⟨key, rfl, r⟩ := r
    obtain ⟨w1, e1, n, ks, rfl, w, hn, hq⟩ := q1.cell i _ hd0
    refine ⟨_, e1, n, _, rfl, by rw [kv_key o1]; exact DGet.k hn, _, rfl, ?_⟩
    rw [(kv_get (k := key) hq).1]
    exact P.ok _ b1 r _ F1 H1 q1 x1 g1 rfl
  · exact r.elim
/-- sorted(d), its keys numbers -/
def wsortD (i : Nat) : Env → Wp (List D) := fun δ b R => match δ[i]? with
  | some (some (.dk kvs)) => ∃ ns : List Int, kvs.map (·.1) = ns.map Sum.inl ∧ ns.length < 64 ∧ ∀ ys : List Int, ys.Perm ns → ys.Pairwise (· ≤ ·) → R (.ok (ys.map PyData.int)) b
  | _ => False
theorem ef_sortD {i : Nat} (G : Cxt X S W k) (hm : X.mg "sorted" = none) (ho : PE X o (tVar i)) (hg : Gl X "sorted" := by rfl) (he : starEach [o] X.env = (false, eval o X.env) :: starEach [] X.env := by rfl) (hpl : (backTo pos (starEach [] X.env)).any (·.1) = false := by rfl) :
    EF X S W (.Call (.Name "sorted" p) [o] [] pos) (wsortD i) := by
  refine ⟨_, pe_callB (call_sortedDI G.calm) hg hm (by decide +kernel) (pa_cons ho pa_nil he) (by decide) (by decide) he hpl, fun H0 δ σ F H b R Q rel hf P => ?_⟩
  unfold wsortD at hf
  split at hf
  · rename_i kvs hd0
    obtain ⟨ns, h1, h2, hf⟩ := hf
    obtain ⟨w1, e1, n, ks, rfl, w, hn, hq⟩ := rel.cell i _ hd0
    refine ⟨_, e1, n, ks, ns, rfl, .inl hn, by rw [kv_keys hq, h1], h2, fun ys q p1 p2 hq2 => ?_⟩
    exact P.ok _ _ (hf ys p1 p2) _ _ _ (rel.tmp hq2) Ex.rfl' (Go.tmp hq2) ⟨q, _, rfl, hq2, upd_same, rel.sub.free hq2, IsDs.ints _⟩
  · exact hf.elim
end
end BB
set_option Elab.async false
set_option linter.all false
set_option maxRecDepth 100000
set_option autoImplicit false
set_option maxHeartbeats 4000000
/-! Bb25: tuples repeated, once too. -/
namespace BB
open PySem PySem.Spec PyProof.Rows L2 HotX L2H
theorem tuple_mulOne (l : Addr) (items : Array Value) (n : Nat) (dd : Option Addr) (sl : Array (Option Value)) (u : Tok) :
    Meets (Builtin.«tuple.__mul__» ⟨[.ref l, .int 1 u], []⟩) (fun _ R s => s.heap.get? l = some { cls := .type "tuple", dict := dd, data := .seq items n, slots := sl } ∧ R (.ok (.ret (.ref l))) s) :=
  .of_wp fun prog w A R s h => by
    obtain ⟨hp, g, d, tk, os⟩ := s
    obtain ⟨hl, h⟩ := h
    have f1 := AutoSeq1.idx_int
    wp_walk using wpAny_loadPart' hl
    repeat (first
      | (refine wpAny_ite_false (decide_eq_false (by decide)) ?_; wp_walk using wpAny_loadPart' hl)
      | (refine wpAny_ite_true (by simp) ?_; wp_walk using wpAny_loadPart' hl))
    exact ⟨_, rfl, h⟩
def rRepT1 (K : PySem.W.Frag) : R2 := fun x y H Q => ∃ l xs, x = .ref l ∧ y = .int 1 ∧ SqT K H l xs ∧ Q (.ref l) H
section
variable {X : Cx} {S : Sg} {W : WX} {k : Nat} {a b : Expr} {pos : Pos}
theorem op_repT1 : OpR X (binaryOp .Mult) (rRepT1 X.K) := by
  intro pins s σ H x y v u Q I rx ry h
  obtain ⟨l, xs, rfl, rfl, hT, q⟩ := h
  cases rx
  obtain ⟨t, rfl⟩ := ry
  obtain ⟨its, r, ⟨⟨cls, dd, data, sl⟩, ho, hc, n, hd⟩, hs⟩ := I.tuple hT
  simp only at hc hd
  subst hc hd
  refine wpAny_binaryOp_repeat_ref (T := "tuple") (U := "int") (by decide) ⟨_, ho, rfl⟩ (fun s' => typeIs_int s' 1 t) noFill_tuple_mul F.fills_int_mul F.slot_int_rmul repeat_tuple F.slot_int_index.lookup
    (call_meets F.slot_int_rmul (typeIs_int s 1 t) F.entry_int_rmul (F.args_int_rmul_2 _ _) (int_rmul_tuple 1 t l its.toArray n dd sl)
      ⟨ho, rfl, ⟨_, ho, rfl⟩, call_meets F.slot_tuple_mul ⟨_, ho, rfl⟩ F.entry_tuple_mul (F.args_tuple_mul_2 _ _) (tuple_mulOne l its.toArray n dd sl t) ⟨ho, ?_⟩⟩)
  exact ⟨.ref l, _, I, rfl, q⟩
/-- ints multiplied, tuples repeated -/
def wMulT : D → D → Wp D := fun x y b R => match x, y with
  | .int i, .int j => CMulX i j ∧ R (.ok (.int (i * j))) b
  | .tuple ds, .int n => 1 ≤ n ∧ n ≤ 1000 ∧ 0 < ds.length ∧ ds.length ≤ 1000 ∧ R (.ok (.tuple (List.replicate n.toNat ds).flatten)) b
  | _, _ => False
theorem r2g_mulT : R2G S W OkV (fun x y H Q => rI CMulX (fun i j => .int (i * j)) x y H Q ∨ (rRepT X.K x y H Q ∨ rRepT1 X.K x y H Q)) wMulT := by
  intro H0 δ σ F H b R Q v u x y rel hx hy hf P
  cases x with
  | int i =>
    cases y with
    | int j => exact .inl ⟨i, j, hx.int, hy.int, hf.1, P.now rel hf.2 (.int _)⟩
    | _ => exact hf.elim
  | tuple ds =>
    cases y with
    | int n =>
      obtain ⟨n1, n2, d0, d1, hf⟩ := hf
      obtain ⟨p, vs, rfl, h1, r1⟩ := hx.tup
      have hl := r1.length
      by_cases e : n = 1
      · subst e
        refine .inr (.inr ⟨p, vs, rfl, hy.int, SqT.of (rel.sub _ _ h1), ?_⟩)
        have e2 : (List.replicate (1 : Int).toNat ds).flatten = ds := by simp
        rw [e2] at hf
        exact P.now rel hf (.tup h1 r1)
      · refine .inr (.inl ⟨p, n, vs, rfl, hy.int, SqT.of (rel.sub _ _ h1), fun z => ?_, by omega, n2, by omega, fun q hq => ?_⟩)
        · rw [z] at hl; simp at hl; omega
        · have ex : Ex F (upd F q (.tup (List.replicate n.toNat vs).flatten)) := Ex.nw (rel.sub.free hq)
          exact P.ok _ _ hf _ _ _ (rel.new hq) ex (Go.new hq) (.tup upd_same ((isds_flat r1 _).mono ex))
    | _ => exact hf.elim
  | _ => exact hf.elim
theorem ex_mulT {fa fb : Env → Wp D} (ha : ET X S W a fa) (hb : ET X S W b fb) : EX X S W (.BinOp a .Mult b pos) (wb2 wMulT fa fb) :=
  ex_op (OpR.or op_mulX (OpR.or op_repT op_repT1)) r2g_mulT ha hb
end
section
variable {i j : Int} {ds : List D} {b : Nat} {R : Except Er D → Nat → Prop}
@[simp ↓] theorem e_mulT1 : wMulT (.int i) (.int j) b R = (CMulX i j ∧ R (.ok (.int (i * j))) b) := id rfl
@[simp ↓] theorem e_mulT2 : wMulT (.tuple ds) (.int i) b R = (1 ≤ i ∧ i ≤ 1000 ∧ 0 < ds.length ∧ ds.length ≤ 1000 ∧ R (.ok (.tuple (List.replicate i.toNat ds).flatten)) b) := id rfl
end
end BB
set_option Elab.async false
set_option linter.all false
set_option maxRecDepth 100000
set_option autoImplicit false
set_option maxHeartbeats 2000000
/-! Bb26: list comprehensions with two sources, their targets names. -/
namespace BB
open PySem PySem.Spec PyProof.Rows L2
/-- what a list that is made is given to -/
def KCR {α : Type} (R : Except Er α → Nat → Prop) : α → Nat → Prop := fun x b => R (.ok x) b
@[simp ↓] theorem KCR_ok {α : Type} {R : Except Er α → Nat → Prop} {x : α} {b : Nat} : KCR R x b = R (.ok x) b := id rfl
def wComp2 (cap i i1 : Nat) (fi : Env → Wp (List D)) (e : Env → Wp D) : List D → Env → Nat → (List D → Nat → Prop) → Prop
  | [], _, b, R => R [] b
  | d :: ds, δ, b, R => fi (δ.set i (some (.val d))) b fun r b1 => match r with
    | .error _ => False
    | .ok es => es.length ≤ cap ∧ wComp (tgn i1) wyes e es (wipeE (δ.set i (some (.val d))) [i1]) b1 fun ys b2 => wComp2 cap i i1 fi e ds δ b2 fun zs b3 => R (ys ++ zs) b3
def kComp2 (vs : List Nat) (i i1 : Nat) (fi : Env → Wp (List D)) (e : Env → Wp D) (δ : Env) : List D → Wp (List D) := fun ds b R => ∃ cap, ds.length * cap ≤ sizeLine ∧ wComp2 cap i i1 fi e ds (wipeE δ vs) b fun ys b' => R (.ok ys) b'
def wlc2 (f : Env → Wp (List D)) (vs : List Nat) (i i1 : Nat) (fi : Env → Wp (List D)) (e : Env → Wp D) : Env → Wp (List D) := fun δ => wbind (f δ) (kComp2 vs i i1 fi e δ)
section
variable {S : Sg} {W : WX} {vs : List Nat}
/-- own objects of names that are wiped, set to values -/
theorem own_wset {δ : Env} {σ : Sl} {i : Nat} {d : D} {x : V} {P : Addr → Prop} (h : ∀ (j : Nat) (c : Cell) (a : Addr), δ[j]? = some (some c) → c.isOwn = true → σ[j]? = some (some (.ref a)) → P a) :
    ∀ (j : Nat) (c : Cell) (a : Addr), (δ.set i (some (.val d)))[j]? = some (some c) → c.isOwn = true → (σ.set i (some x))[j]? = some (some (.ref a)) → P a := fun j c a e1 q e2 => by
  by_cases z : j = i
  · subst z
    rw [List.getElem?_set_self'] at e1
    cases hz : δ[j]? with
    | none => rw [hz] at e1; cases e1
    | some u => rw [hz] at e1; cases e1; cases q
  · rw [List.getElem?_set_ne (Ne.symm z)] at e1 e2
    exact h j c a e1 q e2
theorem own_wipe {δ : Env} {σ : Sl} {vs : List Nat} {P : Addr → Prop} (h : ∀ (j : Nat) (c : Cell) (a : Addr), δ[j]? = some (some c) → c.isOwn = true → σ[j]? = some (some (.ref a)) → P a) :
    ∀ (j : Nat) (c : Cell) (a : Addr), (wipeE δ vs)[j]? = some (some c) → c.isOwn = true → (L2.wipe σ vs)[j]? = some (some (.ref a)) → P a := fun j c a e1 q e2 => by
  have e3 := (wipe_some e2).1
  refine h j c a ?_ q e3
  have : ∀ (vs : List Nat) (δ : Env), (wipeE δ vs)[j]? = some (some c) → δ[j]? = some (some c) := fun vs => by
    induction vs with
    | nil => intro δ z; exact z
    | cons v vs ih =>
      intro δ z
      have z : ((wipeE δ vs).set v none)[j]? = some (some c) := z
      by_cases zz : j = v
      · subst zz
        rw [List.getElem?_set_self'] at z
        cases hz : (wipeE δ vs)[j]? with
        | none => rw [hz] at z; cases z
        | some u => rw [hz] at z; cases z
      · rw [List.getElem?_set_ne (Ne.symm zz)] at z
        exact ih δ z
  exact this vs δ e1
theorem dg_lc2 {wi wi1 : TI} {te : TE} {i i1 : Nat} {f fi : Env → Wp (List D)} {fe : Env → Wp D} (hi : DG S W (ItOk S true) wi f) (hi1 : DG S W0 (ItOk S false) wi1 fi) (he : DG S W0 OkV te fe) (hv : i ∈ vs) :
    DG S W OkF (tLc2 wi (gName i) tYes wi1 (gName i1) tYes te vs [i1]) (wlc2 f vs i i1 fi fe) := by
  intro H0 δ σ F H b R Q rel hf P
  refine hi H0 δ σ F H b _ _ rel hf ⟨fun ds b1 r J F1 H1 rel1 x1 f1 it => ?_, P.er⟩
  obtain ⟨cap, hz, hw⟩ := r
  intro Dl hD
  have d1 : F1 Dl = none := rel1.sub.free hD
  have hDst : S.on = true → Dl ≠ S.st := rel1.sto.here hD
  have h0D := rel1.fr.free rel1.sto hD
  have nown0 : ∀ (j : Nat) (c : Cell) (a : Addr), δ[j]? = some (some c) → c.isOwn = true → σ[j]? = some (some (.ref a)) → a ≠ Dl := fun j c a e1 e2 e3 => by
    obtain ⟨_, u, hu⟩ := rel1.ownAt e1 e2 e3
    exact ne_of_none hu hD
  refine ⟨fun n m H2 => m + n = ds.length ∧ ∃ F2 b2 accV accD, Rel S H0 δ σ F2 H2 b2 ∧ Ex F1 F2 ∧ Go S F1 H1 F2 H2 ∧ F2 Dl = none ∧ H2 Dl = some (.lst accV) ∧ IsDs F2 accV accD ∧ accV.length ≤ n * cap ∧
    wComp2 cap i i1 fi fe (ds.drop n) (wipeE δ vs) b2 (fun ys b3 => R (.ok (accD ++ ys)) b3), ⟨ds.length, rfl, F1, b1, [], [], rel1.tmp hD, Ex.rfl', Go.tmp hD, d1, upd_same, .nil, Nat.zero_le _, ?_⟩, ?_⟩
  · rw [List.drop_zero]; exact hw
  · rintro n m H2 ⟨hm, F2, b2, accV, accD, rel2, x2, g2, n2, hd2, ha, hl, hw⟩
    have it2 := it F2 H2 x2 rel2.sub fun _ => g2.fr
    by_cases hn : n < ds.length
    · obtain ⟨d, hd⟩ : ∃ d, ds[n]? = some d := ⟨ds[n], by simp [hn]⟩
      have hdr : ds.drop n = d :: ds.drop (n + 1) := by
        rw [List.drop_eq_getElem_cons hn]
        congr 1
        rw [List.getElem?_eq_getElem hn] at hd
        exact Option.some.inj hd
      rw [hdr] at hw
      obtain ⟨go, yl⟩ := it2.1 n d hd
      refine .inr ⟨go, fun H' => ∃ m', m' < m ∧ (m' + (n + 1) = ds.length ∧ ∃ F2 b2 accV accD, Rel S H0 δ σ F2 H' b2 ∧ Ex F1 F2 ∧ Go S F1 H1 F2 H' ∧ F2 Dl = none ∧ H' Dl = some (.lst accV) ∧ IsDs F2 accV accD ∧ accV.length ≤ (n + 1) * cap ∧
        wComp2 cap i i1 fi fe (ds.drop (n + 1)) (wipeE δ vs) b2 (fun ys b3 => R (.ok (accD ++ ys)) b3)), fun H' n => n, fun x H3 hy => ?_⟩
      obtain ⟨F3, hF, hx⟩ := yl x H3 hy
      have r3 : Rel S H0 δ σ F3 H3 b2 ∧ Ex F2 F3 ∧ Go S F2 H2 F3 H3 ∧ F3 Dl = none ∧ H3 Dl = some (.lst accV) := by
        rcases hF with ⟨rfl, rfl⟩ | ⟨p, o, np, rfl, rfl⟩
        · exact ⟨rel2, Ex.rfl', Go.rfl', n2, hd2⟩
        · have ne : Dl ≠ p := ne_of_none hd2 np
          exact ⟨rel2.new np, Ex.nw (rel2.sub.free np), Go.new np, by rw [upd_ne ne]; exact n2, by rw [upd_ne ne]; exact hd2⟩
      obtain ⟨rel3, x3, g3, n3, hd3⟩ := r3
      have g13 := g2.tr rel2.sto g3
      refine ⟨?_, ?_⟩
      · have ou : OutS [i] (L2.wipe σ vs) ((L2.wipe σ vs).set i (some x)) := ⟨by rw [List.length_set], fun j hj => List.getElem?_set_ne fun z => hj (by rw [z]; simp)⟩
        exact (ou.wipe fun j hj => by simp at hj; subst hj; exact hv).trans wipe_wipe
      show wi1 _ H3 _
      have rel4 : Rel S H0 ((wipeE δ vs).set i (some (.val d))) ((L2.wipe σ vs).set i (some x)) F3 H3 b2 := (rel3.wipe vs).put i hx
      have nown4 := own_wset (i := i) (d := d) (x := x) (own_wipe (vs := vs) nown0)
      generalize hδ4 : (wipeE δ vs).set i (some (.val d)) = δ4 at rel4 nown4
      generalize hσ4 : (L2.wipe σ vs).set i (some x) = σ4 at rel4 nown4
      have hw4 : fi δ4 b2 fun r b1 => match r with
        | .error _ => False
        | .ok es => es.length ≤ cap ∧ wComp (tgn i1) wyes fe es (wipeE δ4 [i1]) b1 fun ys b2 => wComp2 cap i i1 fi fe (ds.drop (n + 1)) (wipeE δ vs) b2 fun zs b3 => R (.ok (accD ++ (ys ++ zs))) b3 := by
        rw [← hδ4]; exact hw
      have nown5 := own_wipe (vs := [i1]) nown4
      -- what is kept, seen from here
      have back : ∀ {F5 H5 : Hp} {b5 : Nat} {H4 : Hp} {F4 : Hp} {b4 : Nat} {aV : List V}, Rel S H0 δ σ F4 H4 b4 → F4 Dl = none → H4 Dl = some (.lst aV) → StOk S F5 H5 b5 → Ex F4 F5 → Ex F5 H5 → Go S F4 H4 F5 H5 → Rel S H0 δ σ F5 H5 b5 ∧ F5 Dl = none ∧ H5 Dl = some (.lst aV) := fun {F5 H5 b5 H4 F4 b4 aV} r4 f4 h4 so x5 s5 g5 => by
        refine ⟨r4.go x5 s5 g5.fr so g5.nw, ?_, g5.fr Dl _ h4 hDst⟩
        cases q : F5 Dl with
        | none => rfl
        | some o =>
          rcases g5.nw Dl o q with z | z
          · rw [f4] at z; cases z
          · rw [h4] at z; cases z
      refine hi1 H0 δ4 σ4 F3 H3 b2 _ _ rel4 hw4 ⟨fun es b5 w5 J1 F5 H5 rel5 x5 g5 it1 => ?_, fun e b5 w5 F5 H5 rel5 x5 g5 => w5⟩
      obtain ⟨hcap, w5⟩ := w5
      obtain ⟨q1, q2, q3⟩ := back rel3 n3 hd3 rel5.sto x5 rel5.sub g5
      have g56 := g13.tr rel3.sto g5
      refine ⟨fun j k H6 => k + j = es.length ∧ ∃ F6 b6 aV aD, Rel S H0 δ σ F6 H6 b6 ∧ Rel S H0 (wipeE δ4 [i1]) (L2.wipe σ4 [i1]) F6 H6 b6 ∧ Ex F5 F6 ∧ Go S F1 H1 F6 H6 ∧ F6 Dl = none ∧ H6 Dl = some (.lst aV) ∧ IsDs F6 aV aD ∧ aV.length ≤ n * cap + j ∧
        wComp (tgn i1) wyes fe (es.drop j) (wipeE δ4 [i1]) b6 (fun ys b7 => wComp2 cap i i1 fi fe (ds.drop (n + 1)) (wipeE δ vs) b7 fun zs b3 => R (.ok (aD ++ (ys ++ zs))) b3), ⟨es.length, rfl, F5, b5, accV, accD, q1, rel5.wipe [i1], Ex.rfl', g56, q2, q3, ha.mono (x3.tr x5), by omega, ?_⟩, ?_⟩
      · rw [List.drop_zero]; exact w5
      rintro j k H6 ⟨hk, F6, b6, aV, aD, rel6, rel6i, x6, g6, n6, hd6, ha6, hl6, w6⟩
      have it6 := it1 F6 H6 x6 rel6.sub fun z => nomatch z
      by_cases hj : j < es.length
      · obtain ⟨u, hu⟩ : ∃ u, es[j]? = some u := ⟨es[j], by simp [hj]⟩
        have hdr2 : es.drop j = u :: es.drop (j + 1) := by
          rw [List.drop_eq_getElem_cons hj]
          congr 1
          rw [List.getElem?_eq_getElem hj] at hu
          exact Option.some.inj hu
        rw [hdr2] at w6
        obtain ⟨go1, yl1⟩ := it6.1 j u hu
        refine .inr ⟨go1, fun H' => ∃ k', k' < k ∧ (k' + (j + 1) = es.length ∧ ∃ F6 b6 aV aD, Rel S H0 δ σ F6 H' b6 ∧ Rel S H0 (wipeE δ4 [i1]) (L2.wipe σ4 [i1]) F6 H' b6 ∧ Ex F5 F6 ∧ Go S F1 H1 F6 H' ∧ F6 Dl = none ∧ H' Dl = some (.lst aV) ∧ IsDs F6 aV aD ∧ aV.length ≤ n * cap + (j + 1) ∧
          wComp (tgn i1) wyes fe (es.drop (j + 1)) (wipeE δ4 [i1]) b6 (fun ys b7 => wComp2 cap i i1 fi fe (ds.drop (n + 1)) (wipeE δ vs) b7 fun zs b3 => R (.ok (aD ++ (ys ++ zs))) b3)), fun H' n => n, fun x7 H7 hy7 => ?_⟩
        obtain ⟨F7, hF7, hx7⟩ := yl1 x7 H7 hy7
        have r7 : Rel S H0 δ σ F7 H7 b6 ∧ Rel S H0 (wipeE δ4 [i1]) (L2.wipe σ4 [i1]) F7 H7 b6 ∧ Ex F6 F7 ∧ Go S F6 H6 F7 H7 ∧ F7 Dl = none ∧ H7 Dl = some (.lst aV) := by
          rcases hF7 with ⟨rfl, rfl⟩ | ⟨p, o, np, rfl, rfl⟩
          · exact ⟨rel6, rel6i, Ex.rfl', Go.rfl', n6, hd6⟩
          · have ne : Dl ≠ p := ne_of_none hd6 np
            exact ⟨rel6.new np, rel6i.new np, Ex.nw (rel6.sub.free np), Go.new np, by rw [upd_ne ne]; exact n6, by rw [upd_ne ne]; exact hd6⟩
        obtain ⟨rel7, rel7i, x7', g7, n7, hd7⟩ := r7
        refine ⟨?_, ?_⟩
        · have ou : OutS [i1] (L2.wipe σ4 [i1]) ((L2.wipe σ4 [i1]).set i1 (some x7)) := ⟨by rw [List.length_set], fun l hl => List.getElem?_set_ne fun z => hl (by rw [z]; simp)⟩
          exact (ou.wipe fun l hl => hl).trans wipe_wipe
        show te _ H7 _
        have w6' : fe ((wipeE δ4 [i1]).set i1 (some (.val u))) b6 fun r b2 => match r with
            | .error _ => False
            | .ok y => wComp (tgn i1) wyes fe (es.drop (j + 1)) (wipeE δ4 [i1]) b2 fun ys b3 => wComp2 cap i i1 fi fe (ds.drop (n + 1)) (wipeE δ vs) b3 fun zs b3 => R (.ok (aD ++ ((y :: ys) ++ zs))) b3 := w6
        refine he H0 _ _ F7 H7 b6 _ _ (rel7i.put i1 hx7) w6' ⟨fun y b8 w8 v F8 H8 rel8 x8 g8 o8 => ?_, fun e b8 w8 F8 H8 rel8 x8 g8 => w8⟩
        obtain ⟨p1, p2, p3⟩ := back rel7 n7 hd7 rel8.sto x8 rel8.sub g8
        have p1i : Rel S H0 (wipeE δ4 [i1]) (L2.wipe σ4 [i1]) F8 H8 b8 := rel7i.go x8 rel8.sub g8.fr rel8.sto g8.nw
        have g68 := g7.tr rel7.sto g8
        have hz2 : aV.length < sizeLine := by
          have : (n + 1) * cap ≤ ds.length * cap := Nat.mul_le_mul_right cap hn
          rw [Nat.succ_mul] at this
          omega
        refine ⟨aV, p3, hz2, k - 1, by omega, by omega, F8, b8, aV ++ [v], aD ++ [y], p1.bump p2 h0D hDst nown0, p1i.bump p2 h0D hDst nown5, x6.tr (x7'.tr x8), ?_, p2, upd_same, (ha6.mono (x7'.tr x8)).append (.cons o8 .nil), by rw [List.length_append]; simp; omega, ?_⟩
        · have g18 := g6.tr rel6.sto g68
          exact ⟨g18.fr.over hD, g18.nw⟩
        · have e : (fun ys b3 => wComp2 cap i i1 fi fe (ds.drop (n + 1)) (wipeE δ vs) b3 fun zs b3 => R (.ok (aD ++ ((y :: ys) ++ zs))) b3) = fun (ys : List D) b3 => wComp2 cap i i1 fi fe (ds.drop (n + 1)) (wipeE δ vs) b3 fun zs b3 => R (.ok (aD ++ [y] ++ (ys ++ zs))) b3 := by
            funext ys b3
            congr 1
            funext zs b3
            simp
          rw [← e]
          exact w8
      · have hj2 : j = es.length := by omega
        subst hj2
        rw [List.drop_length] at w6
        refine .inl ⟨it6.2, m - 1, by omega, by omega, F6, b6, aV, aD, rel6, x2.tr (x3.tr (x5.tr x6)), g6, n6, hd6, ha6, by rw [Nat.succ_mul]; omega, w6⟩
    · have hi2 : n = ds.length := by omega
      subst hi2
      rw [List.drop_length] at hw
      refine .inl ⟨it2.2, ?_⟩
      have hw' : R (.ok (accD ++ [])) b2 := hw
      rw [List.append_nil] at hw'
      exact P.ok accD b2 hw' _ F2 H2 rel2 (x1.tr x2) (f1.tr rel1.sto g2) ⟨Dl, accV, rfl, f1.fr.free rel1.sto hD, hd2, n2, ha⟩
end
section
variable {X : Cx} {S : Sg} {W : WX} {k : Nat} {vs : List Nat} {i i1 : Nat} {elt tg iter tg1 iter1 : Expr} {pos spos : Pos} {scope : Scope} {own : List (Str × Nat)} {f fi : Env → Wp (List D)} {fe : Env → Wp D}
theorem ef_lc2 (G : Cxt X S W k) (hvs : own.map (·.2) = vs) (hi : IX X S W true tg iter f) (ok : BlkOk X.N X.env.scope scope own)
    (hg : ∀ (s : Shared) (H : Hp) (C : Addr) (cl : List (Str × Addr)) (fp : List Addr), PG (X.blk s H scope (compEnvC scope cl C X.env) fp) tg (gName i))
    (hi1 : ∀ (s : Shared) (H : Hp) (C : Addr) (cl : List (Str × Addr)) (fp : List Addr), IX (X.blk s H scope (compEnvC scope cl C X.env) fp) S W0 false tg1 iter1 fi)
    (hg1 : ∀ (s : Shared) (H : Hp) (C : Addr) (cl : List (Str × Addr)) (fp : List Addr), PG (X.blk s H scope (compEnvC scope cl C X.env) fp) tg1 (gName i1))
    (he : ∀ (s : Shared) (H : Hp) (C : Addr) (cl : List (Str × Addr)) (fp : List Addr), EX (X.blk s H scope (compEnvC scope cl C X.env) fp) S W0 elt fe)
    (hv : i ∈ vs := by decide) (hv1 : ∀ j ∈ [i1], j ∈ vs := by decide) (hs : ∀ x, foldedSetIterable iter X.env x = pure x := by intro _; rfl) (hs1 : ∀ env x, foldedSetIterable iter1 env x = pure x := by intro _ _; rfl) :
    EF X S W (.ListComp elt [⟨tg, iter, [], 0⟩, ⟨tg1, iter1, [], 0⟩] scope pos) (wlc2 f vs i i1 fi fe) := by
  obtain ⟨wi, p, q⟩ := hi
  subst hvs
  exact ⟨_, pe_lc2 (wi1 := cn S W0 (ItOk S false) fi) G.calm G.nd p ok hv1 hg (fun _ _ _ _ _ => pts_nil) (fun s H C cl fp => (let ⟨wi1, p1, q1⟩ := hi1 s H C cl fp; ⟨fun pins s σ H Q I h => p1.run pins s σ H Q I (cn_le q1 h)⟩)) hg1 (fun _ _ _ _ _ => pts_nil) (fun s H C cl fp => (he s H C cl fp).cn) hs hs1, dg_lc2 q dg_cn dg_cn hv⟩
theorem sx_asgLc2F {j : Nat} {y : Str} {py : Pos} (G : Cxt X S W k) (hvs : own.map (·.2) = vs) (hy : X.N[j]? = some y) (hyl : X.env.scope.names.lookup y = some .local)
    (hsw : swapsWith (.ListComp elt [⟨tg, iter, [], 0⟩, ⟨tg1, iter1, [], 0⟩] scope pos) (some (.Name y py)) spos.line X.env = pure true) (hi : IX X S W true tg iter f) (ok : BlkOk X.N X.env.scope scope own)
    (hg : ∀ (s : Shared) (H : Hp) (C : Addr) (cl : List (Str × Addr)) (fp : List Addr), PG (X.blk s H scope (compEnvC scope cl C X.env) fp) tg (gName i))
    (hi1 : ∀ (s : Shared) (H : Hp) (C : Addr) (cl : List (Str × Addr)) (fp : List Addr), IX (X.blk s H scope (compEnvC scope cl C X.env) fp) S W0 false tg1 iter1 fi)
    (hg1 : ∀ (s : Shared) (H : Hp) (C : Addr) (cl : List (Str × Addr)) (fp : List Addr), PG (X.blk s H scope (compEnvC scope cl C X.env) fp) tg1 (gName i1))
    (he : ∀ (s : Shared) (H : Hp) (C : Addr) (cl : List (Str × Addr)) (fp : List Addr), EX (X.blk s H scope (compEnvC scope cl C X.env) fp) S W0 elt fe)
    (hv : i ∈ vs := by decide) (hv1 : ∀ j ∈ [i1], j ∈ vs := by decide) (hs : ∀ x, foldedSetIterable iter X.env x = pure x := by intro _; rfl) (hs1 : ∀ env x, foldedSetIterable iter1 env x = pure x := by intro _ _; rfl) :
    SX X S W (.Assign [.Name y py] (.ListComp elt [⟨tg, iter, [], 0⟩, ⟨tg1, iter1, [], 0⟩] scope pos) spos) (sasgF j (wlc2 f vs i i1 fi fe)) := by
  obtain ⟨wi, p, q⟩ := hi
  subst hvs
  refine ⟨_, ps_setLc2 (wi1 := cn S W0 (ItOk S false) fi) G.calm G.nd hy hyl hsw p ok hv1 hg (fun _ _ _ _ _ => pts_nil) (fun s H C cl fp => (let ⟨wi1, p1, q1⟩ := hi1 s H C cl fp; ⟨fun pins s σ H Q I h => p1.run pins s σ H Q I (cn_le q1 h)⟩)) hg1 (fun _ _ _ _ _ => pts_nil) (fun s H C cl fp => (he s H C cl fp).cn) hs hs1, ?_⟩
  refine ds_lift (tk := fun y D' σ H => D'.nx (σ.set j (some y)) H) (dg_lc2 q dg_cn dg_cn hv) fun H0 δ σ F1 H1 F H b1 b R D' y x r1 rel o hf P => ?_
  obtain ⟨n, vs, rfl, hn, hp, hF, hd⟩ := o
  exact P.nx _ b hf _ F H (r1.putOwn rel j hn ⟨n, vs, rfl, r1.ownNew rel hn hF, hp, hd⟩ rfl) Ex.rfl'
end
section
variable {vs : List Nat} {i i1 cap : Nat} {f fi : Env → Wp (List D)} {e : Env → Wp D} {δ : Env} {d : D} {ds : List D} {b : Nat} {R : List D → Nat → Prop}
@[simp ↓] theorem wComp2_nil : wComp2 cap i i1 fi e [] δ b R = R [] b := id rfl
/-- the inner items are told by a function: what comes -/
theorem wComp2_all {α β : Type} (enc : α → D) (enc1 : β → D) (G : α → List β) (F : α → β → D) : ∀ {xs : List α} {R : List D → Nat → Prop},
    (∀ x ∈ xs, ∀ (K : Except Er (List D) → Nat → Prop), K (.ok ((G x).map enc1)) b → fi (δ.set i (some (.val (enc x)))) b K) → (∀ x ∈ xs, (G x).length ≤ cap) →
    (∀ x ∈ xs, ∀ y ∈ G x, ∀ (K : Except Er D → Nat → Prop), K (.ok (F x y)) b → e ((wipeE (δ.set i (some (.val (enc x)))) [i1]).set i1 (some (.val (enc1 y)))) b K) →
    R (xs.flatMap fun x => (G x).map (F x)) b → wComp2 cap i i1 fi e (xs.map enc) δ b R
  | [], R, _, _, _, h => h
  | x :: xs, R, h1, h2, h3, h => by
    refine h1 x List.mem_cons_self _ ⟨by rw [List.length_map]; exact h2 x List.mem_cons_self, ?_⟩
    refine wComp_all enc1 (F x) (fun y hy Rt hr => ?_) ?_
    · exact h3 x List.mem_cons_self y hy _ hr
    · refine wComp2_all enc enc1 G F (fun y hy => h1 y (List.mem_cons_of_mem _ hy)) (fun y hy => h2 y (List.mem_cons_of_mem _ hy)) (fun y hy => h3 y (List.mem_cons_of_mem _ hy)) ?_
      rw [List.flatMap_cons] at h
      exact h
@[simp ↓] theorem kComp2_ok {R : Except Er (List D) → Nat → Prop} : kComp2 vs i i1 fi e δ ds b R = ∃ cap, ds.length * cap ≤ sizeLine ∧ wComp2 cap i i1 fi e ds (wipeE δ vs) b (KCR R) := id rfl
end
end BB
set_option Elab.async false
set_option linter.all false
set_option maxRecDepth 100000
set_option autoImplicit false
set_option maxHeartbeats 2000000
/-! Bb27: dict comprehensions with int or text keys, kept as a dict of one's own; its length. -/
namespace BB
open PySem PySem.Spec PyProof.Rows L2
/-- name = {k: v for ..} on one line -/
theorem ps_setDc {X : Cx} {i : Nat} {y : Str} {py : Pos} {kx vx tg iter : Expr} {ifs : List Expr} {scope : Scope} {own : List (Str × Nat)} {pos spos : Pos} {wi : TI} {g : TG} {tt : TT} {tk tv : TE} (hc : X.calm = true) (hN : X.N.Nodup) (hy : X.N[i]? = some y) (hyl : X.env.scope.names.lookup y = some .local)
    (hsw : swapsWith (.DictComp kx vx [⟨tg, iter, ifs, 0⟩] scope pos) (some (.Name y py)) spos.line X.env = pure true) (hi : PI X tg iter wi) (ok : BlkOk X.N X.env.scope scope own)
    (hg : ∀ (s : Shared) (H : Hp) (C : Addr) (cl : List (Str × Addr)) (fp : List Addr), PG (X.blk s H scope (compEnvC scope cl C X.env) fp) tg g) (ht : ∀ (s : Shared) (H : Hp) (C : Addr) (cl : List (Str × Addr)) (fp : List Addr), PTs (X.blk s H scope (compEnvC scope cl C X.env) fp) ifs tt)
    (hk : ∀ (s : Shared) (H : Hp) (C : Addr) (cl : List (Str × Addr)) (fp : List Addr), PE (X.blk s H scope (compEnvC scope cl C X.env) fp) kx tk)
    (he : ∀ (s : Shared) (H : Hp) (C : Addr) (cl : List (Str × Addr)) (fp : List Addr), PE (X.blk s H scope (compEnvC scope cl C X.env) fp) vx tv) (hs : ∀ x, foldedSetIterable iter X.env x = pure x := by intro _; rfl) :
    PS X (.Assign [.Name y py] (.DictComp kx vx [⟨tg, iter, ifs, 0⟩] scope pos) spos) (tAsg (tDc wi g tt tk tv (own.map (·.2))) (gName i)) := by
  refine ⟨fun pins s σ H D I h => ?_⟩
  rw [exec_Assign_Name_used _ _ _ _ hsw]
  refine wpAny_bind (wpAny_standAt (wpAny_bind ?_))
  show wpAny _ X.A (do let _ ← comprehension (.DictComp kx vx [⟨tg, iter, ifs, 0⟩] scope pos) scope X.env (firstIterPos [⟨tg, iter, ifs, 0⟩] pos) newDict false (eval iter X.env) (some (assign (.Name y py) X.env))) _ _ s
  have h : tDc wi g tt tk tv (own.map (·.2)) σ H (fun x H1 => gName i x σ H1 D.nx) := h
  refine wpAny_bind (thn (dc_core (Qf := fun _ s' => SP X pins D .next s') hc hN I hi ok hg ht hk he hs h fun L C s' m H' I' q hn f => ?_) fun _ s' hq => wpAny_pure (wpAny_pure hq))
  show wpAny _ _ (assign (.Name y py) X.env (.ref L)) _ _ _
  refine wpAny_assign_Name (store_ok2 (v := V.ref L) I' hN hy (.inl hyl) rfl (fun s2 I2 ⟨a, sb, ha⟩ => ?_) (.inr hyl))
  obtain ⟨f0, f1, f2, f3, f4, f5⟩ := f
  have haC : C ≠ a := by
    rcases ha with z | z
    · rw [z]; exact f1
    · exact fun e => f4 y a z e.symm
  refine ⟨m, hn.sameBut sb haC, fun h3 sb3 => ?_⟩
  exact ⟨_, H', I2.turned (t' := s2.toks) (fun b o hb e => (sb3.2 b hb).trans e) f0 f1 f3 f4 f5, q⟩
def wDcomp (g : TgW) (c : Env → Wp Bool) (ek ev : Env → Wp D) : List D → Env → List (Key × D) → Nat → (List (Key × D) → Nat → Prop) → Prop
  | [], _, acc, b, R => R acc b
  | d :: ds, δ, acc, b, R => g d δ fun δ1 => c δ1 b fun r b1 => match r with
    | .error _ => False
    | .ok false => wDcomp g c ek ev ds δ acc b1 R
    | .ok true => ek δ1 b1 fun r b2 => match r with
      | .error _ => False
      | .ok y => ev δ1 b2 fun r b3 => match r with
        | .error _ => False
        | .ok z => ∃ key, y = keyD key ∧ wDcomp g c ek ev ds δ (putD acc key z) b3 R
def OkDk (S : Sg) : Hp → Hp → Hp → V → List (Key × D) → Prop := fun _ F H v kvs => True
def wdc (f : Env → Wp (List D)) (vs : List Nat) (g : TgW) (c : Env → Wp Bool) (ek ev : Env → Wp D) : Env → Wp (List (Key × D)) := fun δ => wbind (f δ) fun ds b R => ds.length < sizeLine ∧ wDcomp g c ek ev ds (wipeE δ vs) [] b fun ys b' => R (.ok ys) b'
def OkD : Hp → Hp → Hp → V → List (Key × D) → Prop := fun H0 F H v kvs => ∃ p ks, v = .ref p ∧ H0 p = none ∧ H p = some (.dK ks) ∧ F p = none ∧ KvOk F ks kvs
theorem length_putD (kvs : List (Key × D)) (k : Key) (d : D) : (putD kvs k d).length ≤ kvs.length + 1 := by
  unfold putD
  split
  · rw [List.length_map]; omega
  · simp
section
variable {S : Sg} {W : WX} {is vs : List Nat}
theorem dg_dc {wi : TI} {g : TG} {tt : TT} {tk tv : TE} {f : Env → Wp (List D)} {fg : TgW} {fc : Env → Wp Bool} {fk fv : Env → Wp D} (hi : DG S W (ItOk S true) wi f) (hg : DGt S is g fg) (ht : DG S W0 OkB tt fc) (hk : DG S W0 OkV tk fk) (he : DG S W0 OkV tv fv) (hv : ∀ i ∈ is, i ∈ vs) :
    DG S W OkD (tDc wi g tt tk tv vs) (wdc f vs fg fc fk fv) := by
  intro H0 δ σ F H b R Q rel hf P
  refine hi H0 δ σ F H b _ _ rel hf ⟨fun ds b1 r J F1 H1 rel1 x1 f1 it => ?_, P.er⟩
  obtain ⟨hz, hw⟩ := r
  intro Dl hD
  have d1 : F1 Dl = none := rel1.sub.free hD
  refine ⟨fun i m H2 => m + i = ds.length ∧ ∃ F2 b2 accV accD, Rel S H0 δ σ F2 H2 b2 ∧ Ex F1 F2 ∧ Go S F1 H1 F2 H2 ∧ F2 Dl = none ∧ H2 Dl = some (.dK accV) ∧ KvOk F2 accV accD ∧ accV.length ≤ i ∧
    wDcomp fg fc fk fv (ds.drop i) (wipeE δ vs) accD b2 (fun ys b3 => R (.ok ys) b3), ⟨ds.length, rfl, F1, b1, [], [], rel1.tmp hD, Ex.rfl', Go.tmp hD, d1, upd_same, .nil, Nat.le_refl _, ?_⟩, ?_⟩
  · rw [List.drop_zero]; exact hw
  · rintro i m H2 ⟨hm, F2, b2, accV, accD, rel2, x2, g2, n2, hd2, ha, hl, hw⟩
    have it2 := it F2 H2 x2 rel2.sub fun _ => g2.fr
    by_cases hi : i < ds.length
    · obtain ⟨d, hd⟩ : ∃ d, ds[i]? = some d := ⟨ds[i], by simp [hi]⟩
      have hdr : ds.drop i = d :: ds.drop (i + 1) := by
        rw [List.drop_eq_getElem_cons hi]
        congr 1
        rw [List.getElem?_eq_getElem hi] at hd
        exact Option.some.inj hd
      rw [hdr] at hw
      obtain ⟨go, yl⟩ := it2.1 i d hd
      refine .inr ⟨go, fun H' => ∃ m', m' < m ∧ (m' + (i + 1) = ds.length ∧ ∃ F2 b2 accV accD, Rel S H0 δ σ F2 H' b2 ∧ Ex F1 F2 ∧ Go S F1 H1 F2 H' ∧ F2 Dl = none ∧ H' Dl = some (.dK accV) ∧ KvOk F2 accV accD ∧ accV.length ≤ i + 1 ∧
        wDcomp fg fc fk fv (ds.drop (i + 1)) (wipeE δ vs) accD b2 (fun ys b3 => R (.ok ys) b3)), fun H' n => n, fun x H3 hy => ?_⟩
      obtain ⟨F3, hF, hx⟩ := yl x H3 hy
      have r3 : Rel S H0 δ σ F3 H3 b2 ∧ Ex F2 F3 ∧ Go S F2 H2 F3 H3 ∧ F3 Dl = none ∧ H3 Dl = some (.dK accV) := by
        rcases hF with ⟨rfl, rfl⟩ | ⟨p, o, np, rfl, rfl⟩
        · exact ⟨rel2, Ex.rfl', Go.rfl', n2, hd2⟩
        · have ne : Dl ≠ p := ne_of_none hd2 np
          exact ⟨rel2.new np, Ex.nw (rel2.sub.free np), Go.new np, by rw [upd_ne ne]; exact n2, by rw [upd_ne ne]; exact hd2⟩
      obtain ⟨rel3, x3, g3, n3, hd3⟩ := r3
      have g13 := g2.tr rel2.sto g3
      have hDst : S.on = true → Dl ≠ S.st := rel1.sto.here hD
      refine hg H0 (wipeE δ vs) (L2.wipe σ vs) F3 H3 b2 x d _ _ (rel3.wipe vs) hx hw fun δ4 σ4 k4 rel4 out => ⟨(out.wipe hv).trans wipe_wipe, ?_⟩
      have back : ∀ {F5 H5 : Hp} {b5 : Nat}, StOk S F5 H5 b5 → Ex F3 F5 → Ex F5 H5 → Go S F3 H3 F5 H5 → Rel S H0 δ σ F5 H5 b5 ∧ F5 Dl = none ∧ H5 Dl = some (.dK accV) := fun {F5 H5 b5} so x5 s5 g5 => by
        refine ⟨rel3.go x5 s5 g5.fr so g5.nw, ?_, g5.fr Dl _ hd3 hDst⟩
        cases q : F5 Dl with
        | none => rfl
        | some o =>
          rcases g5.nw Dl o q with z | z
          · rw [n3] at z; cases z
          · rw [hd3] at z; cases z
      refine ht H0 δ4 σ4 F3 H3 b2 _ _ rel4 k4 ⟨fun c b5 w5 y F5 H5 rel5 x5 g5 o5 => ?_, fun e b5 w5 F5 H5 rel5 x5 g5 => w5⟩
      cases o5
      cases c with
      | false =>
        obtain ⟨q1, q2, q3⟩ := back rel5.sto x5 rel5.sub g5
        exact ⟨m - 1, by omega, by omega, F5, b5, accV, accD, q1, x2.tr (x3.tr x5), g13.tr rel3.sto g5, q2, q3, ha.mono (x3.tr x5), by omega, w5⟩
      | true =>
        refine hk H0 δ4 σ4 F5 H5 b5 _ _ rel5 w5 ⟨fun y b6 w6 v F6 H6 rel6 x6 g6 o6 => ?_, fun e b6 w6 F6 H6 rel6 x6 g6 => w6⟩
        refine he H0 δ4 σ4 F6 H6 b6 _ _ rel6 w6 ⟨fun z b7 w7 u F7 H7 rel7 x7 g7 o7 => ?_, fun e b7 w7 F7 H7 rel7 x7 g7 => w7⟩
        obtain ⟨key, rfl, w7⟩ := w7
        have g56 := g5.tr rel5.sto g6
        have g57 := g56.tr rel6.sto g7
        obtain ⟨q1, q2, q3⟩ := back rel7.sto (x5.tr (x6.tr x7)) rel7.sub g57
        have hz2 : accV.length < sizeLine := by omega
        have lp := length_putK accV key u
        refine ⟨accV, key, kv_key o6, q3, hz2, m - 1, by omega, by omega, F7, b7, putK accV key u, putD accD key z, ?_, x2.tr (x3.tr (x5.tr (x6.tr x7))), ?_, q2, upd_same, kv_put (ha.mono (x3.tr (x5.tr (x6.tr x7)))) o7, by omega, w7⟩
        · have nown : ∀ (j : Nat) (c : Cell) (a : Addr), δ[j]? = some (some c) → c.isOwn = true → σ[j]? = some (some (.ref a)) → a ≠ Dl := fun j c a e1 e2 e3 => by
            obtain ⟨_, u, hu⟩ := rel1.ownAt e1 e2 e3
            exact ne_of_none hu hD
          exact q1.bump q2 (rel1.fr.free rel1.sto hD) hDst nown
        · exact ⟨(g13.tr rel3.sto g57).fr.over hD, (g13.tr rel3.sto g57).nw⟩
    · have hi2 : i = ds.length := by omega
      subst hi2
      rw [List.drop_length] at hw
      refine .inl ⟨it2.2, ?_⟩
      exact P.ok accD b2 hw _ F2 H2 rel2 (x1.tr x2) (f1.tr rel1.sto g2) ⟨Dl, accV, rfl, f1.fr.free rel1.sto hD, hd2, n2, ha⟩
end
section
variable {X : Cx} {S : Sg} {W : WX} {k : Nat} {is vs : List Nat} {kx vx tg iter : Expr} {ifs : List Expr} {pos spos : Pos} {scope : Scope} {own : List (Str × Nat)} {f : Env → Wp (List D)} {fg : TgW} {fc : Env → Wp Bool} {fk fv : Env → Wp D}
def sasgD (i : Nat) (f : Env → Wp (List (Key × D))) : SW := slift f fun d δ b R => R (.nx (δ.set i (some (.dk d)))) b
theorem sx_asgDc {i : Nat} {y : Str} {py : Pos} (G : Cxt X S W k) (hvs : own.map (·.2) = vs) (hy : X.N[i]? = some y) (hyl : X.env.scope.names.lookup y = some .local)
    (hsw : swapsWith (.DictComp kx vx [⟨tg, iter, ifs, 0⟩] scope pos) (some (.Name y py)) spos.line X.env = pure true) (hi : IX X S W true tg iter f) (ok : BlkOk X.N X.env.scope scope own)
    (hg : ∀ (s : Shared) (H : Hp) (C : Addr) (cl : List (Str × Addr)) (fp : List Addr), GX (X.blk s H scope (compEnvC scope cl C X.env) fp) S is tg fg)
    (ht : ∀ (s : Shared) (H : Hp) (C : Addr) (cl : List (Str × Addr)) (fp : List Addr), TX (X.blk s H scope (compEnvC scope cl C X.env) fp) S W0 ifs fc)
    (hk : ∀ (s : Shared) (H : Hp) (C : Addr) (cl : List (Str × Addr)) (fp : List Addr), EX (X.blk s H scope (compEnvC scope cl C X.env) fp) S W0 kx fk)
    (he : ∀ (s : Shared) (H : Hp) (C : Addr) (cl : List (Str × Addr)) (fp : List Addr), EX (X.blk s H scope (compEnvC scope cl C X.env) fp) S W0 vx fv)
    (hv : ∀ i ∈ is, i ∈ vs := by decide) (hs : ∀ x, foldedSetIterable iter X.env x = pure x := by intro _; rfl) : SX X S W (.Assign [.Name y py] (.DictComp kx vx [⟨tg, iter, ifs, 0⟩] scope pos) spos) (sasgD i (wdc f vs fg fc fk fv)) := by
  obtain ⟨wi, p, q⟩ := hi
  subst hvs
  refine ⟨_, ps_setDc G.calm G.nd hy hyl hsw p ok (fun s H C cl fp => (hg s H C cl fp).cn) (fun s H C cl fp => (ht s H C cl fp).cn) (fun s H C cl fp => (hk s H C cl fp).cn) (fun s H C cl fp => (he s H C cl fp).cn) hs, ?_⟩
  refine ds_lift (tk := fun y D' σ H => D'.nx (σ.set i (some y)) H) (dg_dc q dgt_cn dg_cn dg_cn dg_cn hv) fun H0 δ σ F1 H1 F H b1 b R D' y x r1 rel o hf P => ?_
  obtain ⟨n, ks, rfl, hn, hp, hF, hd⟩ := o
  exact P.nx _ b hf _ F H (r1.putOwn rel i hn ⟨n, ks, rfl, r1.ownNew rel hn hF, hp, hd⟩ rfl) Ex.rfl'
/-- len(d) -/
def wlenD (i : Nat) : Env → Wp D := fun δ b R => match δ[i]? with
  | some (some (.dk kvs)) => R (.ok (.int kvs.length)) b
  | _ => False
theorem ex_lenD {i : Nat} {p : Pos} {o : Expr} (hm : X.mg "len" = none) (ho : PE X o (tVar i)) (hg : Gl X "len" := by rfl) (he : starEach [o] X.env = (false, eval o X.env) :: starEach [] X.env := by rfl) (hpl : (backTo pos (starEach [] X.env)).any (·.1) = false := by rfl) :
    EX X S W (.Call (.Name "len" p) [o] [] pos) (wlenD i) := by
  refine ⟨_, pe_callB call_lenD hg hm (by decide +kernel) (pa_cons ho pa_nil he) (by decide) (by decide) he hpl, fun H0 δ σ F H b R Q rel hf P => ?_⟩
  unfold wlenD at hf
  split at hf
  · rename_i kvs hd0
    obtain ⟨w1, e1, n, ks, rfl, w, hn, hq⟩ := rel.cell i _ hd0
    refine ⟨_, e1, n, ks, rfl, hn, ?_⟩
    have hl : ks.length = kvs.length := Paired.length hq
    rw [hl]
    exact P.now rel hf (.int _)
  · exact hf.elim
end
end BB
set_option Elab.async false
set_option linter.all false
set_option maxRecDepth 100000
set_option autoImplicit false
set_option maxHeartbeats 2000000
/-! Bb28: x = xs.pop(), x = xs.pop(i); a dict display of one pair; d[k], d.get(k, v). -/
namespace BB
open PySem PySem.Spec PyProof.Rows L2
theorem sw_trueD {kx vx : Expr} {gs : List Comprehension} {scope : Scope} {pos py : Pos} {y : Str} {l : Nat} {env : PySem.Env} (hk : env.scope.kind = .function) (hy : env.scope.names.lookup y = some .local) (hl : (py.line == pos.line) = true)
    (ha : (scope.names.any fun (n, k) => n == y && (k == .local || k == .cell)) = false) : swapsWith (.DictComp kx vx gs scope pos) (some (.Name y py)) l env = pure true := by
  have ky : env.kindOf y = some .local := hy
  have hb : env.blockKind = .function := by unfold Env.blockKind; rw [hk]; rfl
  unfold swapsWith
  simp only [hb, ky, ha, Expr.pos, hl]
  rfl
section
variable {X : Cx} {S : Sg} {W : WX} {k : Nat} {a b e o : Expr} {p pos : Pos} {apos cpos : Pos}
/-- x = xs.pop(): j the name, i the list -/
def spop (i j : Nat) : SW := fun δ b R => match δ[i]? with
  | some (some (.own ds)) => ∃ d, ds[ds.length - 1]? = some d ∧ R (.nx ((δ.set i (some (.own ds.dropLast))).set j (some (.val d)))) b
  | _ => False
theorem isds_drop {F : Hp} : ∀ {vs : List V} {ds : List D}, IsDs F vs ds → IsDs F vs.dropLast ds.dropLast := fun {vs ds} h => by
  rw [List.dropLast_eq_take, List.dropLast_eq_take, h.length]
  exact h.take _
theorem isds_erase {F : Hp} : ∀ {vs : List V} {ds : List D} (n : Nat), IsDs F vs ds → IsDs F (vs.eraseIdx n) (ds.eraseIdx n)
  | _, _, _, .nil => .nil
  | _, _, 0, .cons _ b => b
  | _, _, n + 1, .cons a b => .cons a (isds_erase n b)
theorem sx_pop {i j : Nat} {x : Str} {pos' : Pos} (hN : X.N.Nodup) (hj : X.N[j]? = some x) (hx : Loc X.env.scope x) (ho : PE X o (tVar i))
    (hs : swapsWith (.Call (.Attribute o "pop" apos) [] [] cpos) (some (.Name x pos')) pos.line X.env = pure false := by rfl)
    (hf : X.fn x = true ∨ X.env.scope.names.lookup x = some .local := by first | exact .inl rfl | exact .inr rfl | assumption)
    (hbase : attributeBase o "pop" X.env (eval o X.env) = eval o X.env := by rfl) (hline : (apos.endLine == cpos.line) = true := by rfl) :
    SX X S W (.Assign [.Name x pos'] (.Call (.Attribute o "pop" apos) [] [] cpos) pos) (spop i j) := by
  refine ⟨_, ps_set hN hj hx (pe_bm0 PySem.F.plainAttrs_list PySem.F.slot_list_pop PySem.F.type_list_pop mt_pop ho hbase hline) hs hf, fun H0 δ σ F H b R D' rel hf P => ?_⟩
  unfold spop at hf
  split at hf
  · rename_i ds0 hd0
    obtain ⟨d, hd, hf⟩ := hf
    obtain ⟨v, e1, n, vs, rfl, w, hn, hq⟩ := rel.cell i _ hd0
    obtain ⟨u, hu, ou⟩ := hq.get hd
    rw [← hq.length] at hu
    refine ⟨_, e1, .inl ⟨rfl, _, SqL.of hn⟩, n, vs, u, rfl, rfl, hn, hu, ?_⟩
    have r2 := rel.poke hd0 rfl e1 rfl (c' := .own ds0.dropLast) (o := .lst vs.dropLast) ⟨n, vs.dropLast, rfl, w, upd_same, isds_drop hq⟩
    exact P.nx _ b hf _ F _ (r2.put j ou) Ex.rfl'
  · exact hf.elim
/-- x = xs.pop(n), n a written number that is no place from the end -/
def spopAt (i j n : Nat) : SW := fun δ b R => match δ[i]? with
  | some (some (.own ds)) => ∃ d, ds[n]? = some d ∧ R (.nx ((δ.set i (some (.own (ds.eraseIdx n)))).set j (some (.val d)))) b
  | _ => False
theorem sx_popAt {i j n cq : Nat} {x : Str} {pos' ip : Pos} (hN : X.N.Nodup) (hj : X.N[j]? = some x) (hx : Loc X.env.scope x) (ho : PE X o (tVar i)) (hn9 : n ≤ 9)
    (hs : swapsWith (.Call (.Attribute o "pop" apos) [.Constant (.int (n : Int)) cq ip] [] cpos) (some (.Name x pos')) pos.line X.env = pure false := by rfl)
    (hf : X.fn x = true ∨ X.env.scope.names.lookup x = some .local := by first | exact .inl rfl | exact .inr rfl | assumption)
    (hbase : attributeBase o "pop" X.env (eval o X.env) = eval o X.env := by rfl)
    (hfew : ((backTo cpos (starEach [.Constant (.int (n : Int)) cq ip] X.env)).all (fun x => !x.1) && (backToKw cpos (keywordEach [] X.env)).all (fun x => x.1.isSome) && decide ([Expr.Constant (.int (n : Int)) cq ip].length + ([] : List Keyword).length + (if ([] : List Keyword).isEmpty then 0 else 1) < 30)) = true := by rfl)
    (hline : (apos.endLine == cpos.line) = true := by rfl) (hst : starEach [.Constant (.int (n : Int)) cq ip] X.env = (false, eval (.Constant (.int (n : Int)) cq ip) X.env) :: starEach [] X.env := by rfl) (hplain : (backTo cpos (starEach [] X.env)).any (·.1) = false := by rfl) :
    SX X S W (.Assign [.Name x pos'] (.Call (.Attribute o "pop" apos) [.Constant (.int (n : Int)) cq ip] [] cpos) pos) (spopAt i j n) := by
  refine ⟨_, ps_set hN hj hx (pe_bm PySem.F.plainAttrs_list PySem.F.slot_list_pop PySem.F.type_list_pop mt_popAt ho (pa_cons pe_int pa_nil hst) hbase hfew hline hst hplain) hs hf, fun H0 δ σ F H b R D' rel hf P => ?_⟩
  unfold spopAt at hf
  split at hf
  · rename_i ds0 hd0
    obtain ⟨d, hd, hf⟩ := hf
    obtain ⟨v, e1, m, vs, rfl, w, hn, hq⟩ := rel.cell i _ hd0
    obtain ⟨u, hu, ou⟩ := hq.get hd
    have hlt := (List.getElem?_eq_some_iff.1 hu).1
    refine ⟨_, e1, .inl ⟨rfl, _, SqL.of hn⟩, m, vs, (n : Int), n, u, rfl, rfl, hn, by omega, by omega, ?_, hu, ?_⟩
    · unfold seqIndex?
      simp
      omega
    have r2 := rel.poke hd0 rfl e1 rfl (c' := .own (ds0.eraseIdx n)) (o := .lst (vs.eraseIdx n)) ⟨m, vs.eraseIdx n, rfl, w, upd_same, isds_erase n hq⟩
    exact P.nx _ b hf _ F _ (r2.put j ou) Ex.rfl'
  · exact hf.elim
/-- x = {k: v} -/
def sdone (i : Nat) (fk fv : Env → Wp D) : SW := fun δ b R => fk δ b fun r b1 => match r with
  | .error er => R (.er er) b1
  | .ok y => fv δ b1 fun r b2 => match r with
    | .error er => R (.er er) b2
    | .ok d => ∃ key, y = keyD key ∧ R (.nx (δ.set i (some (.dk [(key, d)])))) b2
theorem sx_done {i : Nat} {x : Str} {pos' : Pos} {fk fv : Env → Wp D} (hN : X.N.Nodup) (hi : X.N[i]? = some x) (hx : Loc X.env.scope x) (hk : EX X S W a fk) (hv : EX X S W e fv)
    (hs : swapsWith (.Dict [some a] [e] p) (some (.Name x pos')) pos.line X.env = pure false := by rfl)
    (hf : X.fn x = true ∨ X.env.scope.names.lookup x = some .local := by first | exact .inl rfl | exact .inr rfl | assumption) : SX X S W (.Assign [.Name x pos'] (.Dict [some a] [e] p) pos) (sdone i fk fv) := by
  obtain ⟨tk, pk, qk⟩ := hk
  obtain ⟨tv, pv, qv⟩ := hv
  refine ⟨_, ps_set hN hi hx (pe_disp (pps_cons pk pv pps_nil) rfl rfl (by simp) (by simp)) hs hf, fun H0 δ σ F H b R D' rel hf P => ?_⟩
  intro n hn
  have rel1 : Rel S H0 δ σ F (upd H n (.dK [])) b := rel.tmp hn
  have fn0 : F n = none := rel.sub.free hn
  have hst : S.on = true → n ≠ S.st := rel.sto.here hn
  refine qk H0 δ σ F _ b _ _ rel1 hf ⟨fun y b1 r v F1 H1 q1 x1 g1 o1 => ?_, fun er b1 r F1 H1 q1 x1 g1 => P.er er b1 r δ σ F1 H1 q1 x1⟩
  refine qv H0 δ σ F1 H1 b1 _ _ q1 r ⟨fun d b2 r2 u F2 H2 q2 x2 g2 o2 => ?_, fun er b2 r2 F2 H2 q2 x2 g2 => P.er er b2 r2 δ σ F2 H2 q2 (x1.tr x2)⟩
  obtain ⟨key, rfl, r2⟩ := r2
  have g12 := g1.tr q1.sto g2
  have hn2 : H2 n = some (.dK []) := g12.fr n _ upd_same hst
  have fn2 : F2 n = none := by
    cases q : F2 n with
    | none => rfl
    | some z =>
      rcases g12.nw n z q with w | w
      · rw [fn0] at w; cases w
      · rw [upd_same] at w; cases w
  refine ⟨hn2, [(key, u)], ?_, by simp, ?_⟩
  · rw [kv_key (o1.mono x2)]; rfl
  have nown : ∀ (j : Nat) (c : Cell) (a : Addr), δ[j]? = some (some c) → c.isOwn = true → σ[j]? = some (some (.ref a)) → a ≠ n := fun j c a e1 e2 e3 => by
    obtain ⟨_, z, hz⟩ := rel.ownAt e1 e2 e3
    exact ne_of_none hz hn
  have q3 := q2.bump (o := .dK [(key, u)]) fn2 (rel.fr.free rel.sto hn) hst nown
  refine P.nx _ b2 r2 _ F2 _ (rel.putOwn q3 i hn ⟨n, [(key, u)], rfl, rel.ownNew q3 hn fn2, ?_, .cons ⟨rfl, o2⟩ .nil⟩ rfl) (x1.tr x2)
  exact upd_same
/-- d[k] -/
def wdget (i : Nat) (fk : Env → Wp D) : Env → Wp D := fun δ b R => match δ[i]? with
  | some (some (.dk kvs)) => fk δ b fun r b' => match r with
    | .error er => R (.error er) b'
    | .ok y => ∃ key d, y = keyD key ∧ getD' kvs key = some d ∧ R (.ok d) b'
  | _ => False
theorem ex_dget {i : Nat} {fk : Env → Wp D} (G : Cxt X S W k) (ho : PE X o (tVar i)) (hk : EX X S W a fk) (hs : NoSl a := by exact fun _ _ => rfl) : EX X S W (.Subscript o a pos) (wdget i fk) := by
  obtain ⟨tk, pk, qk⟩ := hk
  refine ⟨_, pe_dget (by have := G.hu65; omega) ho pk hs, fun H0 δ σ F H b R Q rel hf P => ?_⟩
  unfold wdget at hf
  split at hf
  · rename_i kvs hd0
    obtain ⟨v, e1, n, ks, rfl, w, hn, hq⟩ := rel.cell i _ hd0
    refine ⟨_, e1, ?_⟩
    refine qk H0 δ σ F H b _ _ rel hf ⟨fun y b1 r u F1 H1 q1 x1 g1 o1 => ?_, fun er b1 r F1 H1 q1 x1 g1 => P.er er b1 r F1 H1 q1 x1 g1⟩
    obtain ⟨key, d, rfl, hg, r⟩ := r
    obtain ⟨v2, e2, n2, ks2, rfl, w2, hn2, hq2⟩ := q1.cell i _ hd0
    rw [e1] at e2
    cases e2
    obtain ⟨z, hz, oz⟩ := (kv_get (k := key) hq2).2 d hg
    refine ⟨n, z, rfl, by rw [kv_key o1, ← hz]; exact DGet.k hn2, ?_⟩
    exact P.ok d b1 r z F1 H1 q1 x1 g1 oz
  · exact hf.elim
/-- d.get(k, v) -/
def wdgetX (i : Nat) (fk fv : Env → Wp D) : Env → Wp D := fun δ b R => match δ[i]? with
  | some (some (.dk kvs)) => fk δ b fun r b' => match r with
    | .error er => R (.error er) b'
    | .ok y => fv δ b' fun r b2 => match r with
      | .error er => R (.error er) b2
      | .ok z => ∃ key, y = keyD key ∧ R (.ok ((getD' kvs key).getD z)) b2
  | _ => False
theorem ex_dgetX {i : Nat} {fk fv : Env → Wp D} (G : Cxt X S W k) (ho : PE X o (tVar i)) (hk : EX X S W a fk) (hv : EX X S W e fv) (m : M2 X o "get" apos a e cpos := by exact ⟨rfl, rfl, rfl, rfl⟩) :
    EX X S W (.Call (.Attribute o "get" apos) [a, e] [] cpos) (wdgetX i fk fv) := by
  obtain ⟨tk, pk, qk⟩ := hk
  obtain ⟨tv, pv, qv⟩ := hv
  refine ⟨_, pe_dget2 (by have := G.hu65; omega) ho pk pv m, fun H0 δ σ F H b R Q rel hf P => ?_⟩
  unfold wdgetX at hf
  split at hf
  · rename_i kvs hd0
    obtain ⟨v, e1, n, ks, rfl, w, hn, hq⟩ := rel.cell i _ hd0
    refine ⟨_, e1, n, rfl, .inl ⟨_, .inl hn⟩, ?_⟩
    refine qk H0 δ σ F H b _ _ rel hf ⟨fun y b1 r u F1 H1 q1 x1 g1 o1 => ?_, fun er b1 r F1 H1 q1 x1 g1 => P.er er b1 r F1 H1 q1 x1 g1⟩
    refine qv H0 δ σ F1 H1 b1 _ _ q1 r ⟨fun d b2 r2 u2 F2 H2 q2 x2 g2 o2 => ?_, fun er b2 r2 F2 H2 q2 x2 g2 => P.er er b2 r2 F2 H2 q2 (x1.tr x2) (g1.tr q1.sto g2)⟩
    obtain ⟨key, rfl, r2⟩ := r2
    obtain ⟨v2, e2, n2, ks2, rfl, w2, hn2, hq2⟩ := q2.cell i _ hd0
    rw [e1] at e2
    cases e2
    have kg := kv_get (k := key) hq2
    refine ⟨valV ks2 key, by rw [kv_key (o1.mono x2)]; exact DGet.k hn2, ?_⟩
    cases hg : getD' kvs key with
    | none =>
      rw [hg] at kg r2
      have e : valV ks2 key = none := by
        cases z : valV ks2 key with
        | none => rfl
        | some z' => rw [z] at kg; exact absurd kg.1 (by simp)
      rw [e]
      exact P.ok d b2 r2 u2 F2 H2 q2 (x1.tr x2) (g1.tr q1.sto g2) o2
    | some z =>
      rw [hg] at kg r2
      obtain ⟨w3, hw3, ow⟩ := kg.2 z rfl
      rw [hw3]
      exact P.ok z b2 r2 w3 F2 H2 q2 (x1.tr x2) (g1.tr q1.sto g2) ow
  · exact hf.elim
end
end BB
set_option Elab.async false
set_option linter.all false
set_option maxRecDepth 100000
set_option autoImplicit false
set_option maxHeartbeats 2000000
/-! Bb29: sorted(set(x)) of a list or a tuple of numbers. -/
namespace BB
open PySem PySem.Spec PyProof.Rows L2 HotX L2H
section
variable {P : Program} {w : World} {A : Around} {E : Value → Shared → Prop} {s : Shared}
set_option maxRecDepth 100000 in
set_option maxHeartbeats 3200000 in
/-- set(l), l a list of numbers -/
theorem setT_call {l : Addr} {xs : Array Value} (ns : List Int) {Q : Value → Shared → Prop} (q0 : A.handled = none) (q1 : s.heap.IsTuple l xs) (q2 : IntsAre xs.toList ns) (q3 : ns.length + 1 < scanBound)
    (q : ∀ (h2 : Heap) (n c : Nat), SetR w h2 s.heap.objs.size (fun j => decide (j ∈ ns)) c → c ≤ ns.length → (∀ b o, s.heap.get? b = some o → h2.get? b = some o) → Q (.ref s.heap.objs.size) { s with heap := h2, toks := n }) :
    wpAny (model P w) A (call (.type "set") [.ref l]) Q E s := by
  have size : xs.size = ns.length := by
    have z := IntsAre.length q2
    rwa [Array.length_toList] at z
  obtain ⟨_, _, mr⟩ := F.called_set.mro
  have f1 := F.called_set.made
  have f2 := F.called_set.sub
  refine wpAny_call (codeAny_of_tree ?_)
  show wpAny _ _ (callAny (.type "set") _) _ _ _
  refine wpAny_pure ⟨Code.quiet_builtin _ (by decide +kernel), codeAny_builtin F.entry_type_call ?_⟩
  rw [Around.under_plain (weight_type_call_type "set" [.ref l] []) rfl]
  have f3 := F.called_set.notType
  have f4 := F.called_set.canCreate
  have f5 := F.typeCall_set_1 (.ref l)
  repeat (any_goals (first | assumption | wp_step))
  have made := code_set_led1 (P := P) (w := w) (A := A.in1) (s := s) (.ref l) (E := E) (Q₁ := fun u t => u = .ref s.heap.objs.size ∧ t = { s with heap := s.heap.push (nuS w) }) ⟨rfl, rfl⟩
  refine codeAny_mono made fun r t hr => ?_
  cases r with
  | error u => exact hr
  | ok fl =>
    cases fl with
    | ret u =>
      obtain ⟨rfl, rfl⟩ := hr
      have here : (s.heap.push (nuS w)).get? s.heap.objs.size = some (nuS w) := Heap.get?_push_size _ rfl
      have hT : Shared.TypeIs { s with heap := s.heap.push (nuS w) } (.ref s.heap.objs.size) "set" := ⟨_, here, rfl⟩
      have f6 := F.called_set.init.lookup
      have f7 := F.called_set.init.bind (.ref s.heap.objs.size)
      repeat (any_goals (first | assumption | wp_step))
      let End : Result → Shared → Prop := wants (fun u t => u = .none ∧ ∃ h2 n c, t = { s with heap := h2, toks := n } ∧ SetR w h2 s.heap.objs.size (fun j => decide (j ∈ ns)) c ∧ c ≤ ns.length ∧ (∀ b o, s.heap.get? b = some o → h2.get? b = some o)) E
      refine codeAny_mono (codeAny_call_builtin (R := End) F.called_set.init.plain F.entry_set_init (check_set_init_1 hT ?_)) fun r2 t2 e2 => ?_
      · obtain ⟨⟨oc, od, odd, osl⟩, at0, cl, n0, dt⟩ := q1
        simp only at cl dt
        subst cl; subst dt
        have at1 : (s.heap.push (nuS w)).get? l = some { cls := .type "tuple", dict := od, data := .seq xs n0, slots := osl } := Heap.get?_push_of_some _ at0
        have g1 := F.sub_tuple_set
        have g2 := F.sub_tuple_frozenset
        have g3 : (Value.type "tuple" == Value.type "dict") = false := by decide
        have isl : (s.heap.push (nuS w)).IsTuple l xs := ⟨_, at1, rfl, n0, rfl⟩
        unfold Builtin.«set.__init__» noKeywords Builtin.Frozenset.updateFrom
        generalize it : pyIter = IT
        wp_walk
        subst it
        refine wpAny_pyIter_tuple isl ?_
        refine wpAny_bind (wpAny_runValue ?_)
        have l0 : l < s.heap.objs.size := Heap.lt_size at0
        have hh : A.in1.in1.in1.handled = none := by simp [q0]
        have z1 : (s.heap.push (nuS w)).objs.size = s.heap.objs.size + 1 := Heap.size_push ..
        have ne1 : l ≠ (s.heap.push (nuS w)).objs.size := Nat.ne_of_lt (by rw [z1]; exact Nat.lt_succ_of_lt l0)
        have out1 : s.heap.objs.size ∉ [(s.heap.push (nuS w)).objs.size, l] := by
          rw [z1]
          intro z
          rcases List.mem_cons.1 z with z | z
          · exact absurd z (Nat.ne_of_lt (Nat.lt_succ_self _))
          · exact absurd (List.mem_singleton.1 z) (Nat.ne_of_gt l0)
        have vals : ∀ (i : Nat) (v : Value), xs[i]? = some v → ∃ k t, ns[i]? = some k ∧ v = .int k t := fun i v hv => by
          have hi : i < ns.length := by
            rw [← size]
            exact (Array.getElem?_eq_some_iff.mp hv).1
          obtain ⟨t, e⟩ := IntsAre.int_at q2 i v (by rwa [Array.getElem?_toList])
          rw [List.getD_eq_getElem?_getD, List.getElem?_eq_getElem hi] at e
          exact ⟨_, t, List.getElem?_eq_getElem hi, e⟩
        have W := (Walks.tuple hh (s.heap.push (nuS w)).objs.size l ne1 xs (prog := P) (w := w)).toS
        refine set_update_ints W s.heap.objs.size out1 ns size q3 vals (xs.size - 0) 0 _ (by omega) (Nat.zero_le _) ⟨⟨_, Heap.get?_push_size _ rfl, rfl, rfl⟩, isl.push _⟩ ?_ ?_
        · exact ⟨0, Nat.le_refl 0, setR_new_at (Heap.get?_push_of_some _ here)⟩
        · intro t2 c mv lc S2
          obtain ⟨h2, g2, d2, n2, o2⟩ := t2
          obtain rfl : g2 = s.gens := mv.gens
          obtain rfl : d2 = s.drawn := mv.drawn
          obtain rfl : o2 = s.os := mv.os
          show wpAny _ _ _ _ _ _
          refine wpAny_pure ?_
          show wpAny _ _ (ret Value.none) _ _ _
          refine wpAny_pure ⟨rfl, h2, n2, c, rfl, S2, by omega, fun b o e => ?_⟩
          have b0 : b < s.heap.objs.size := Heap.lt_size e
          refine mv.heap b o (fun z => ?_) (Heap.get?_push_of_some _ (Heap.get?_push_of_some _ e))
          rcases List.mem_cons.1 z with z | z
          · exact absurd z (Nat.ne_of_lt b0)
          · exact absurd ((List.mem_singleton.1 z).trans z1) (Nat.ne_of_lt (Nat.lt_succ_of_lt b0))
      · cases r2 with
        | error u => exact e2
        | ok fl2 =>
          cases fl2 with
          | ret u =>
            obtain ⟨rfl, h2, n2, c, rfl, S2, lc, kp⟩ := e2
            repeat (any_goals (first | assumption | wp_step))
            exact q _ _ _ S2 lc kp
          | _ => exact e2.elim
    | _ => exact hr.elim
end
section
variable {X : Cx} {S : Sg} {W : WX} {k : Nat} {a : Expr} {ta : TE} {p p2 q pos : Pos}
def rSortSet2 (K : PySem.W.Frag) (x : V) (H1 : Hp) (Q : VK) : Prop := ∃ (l : Addr) (ns : List Int), x = .ref l ∧ (SqL K H1 l (ns.map V.int) ∨ SqT K H1 l (ns.map V.int)) ∧ ns.length < 64 ∧
  ∀ (ys : List Int) (n : Addr), ys.Pairwise (· < ·) → (∀ k, k ∈ ys ↔ k ∈ ns) → H1 n = none → Q (.ref n) (upd H1 n (.lst (ys.map V.int)))
def tSortSet2 (K : PySem.W.Frag) (ta : TE) : TE := fun σ H Q => ta σ H fun x H1 => rSortSet2 K x H1 Q
theorem pe_sortSet2 (hc : X.calm = true) (hg : Gl X "sorted") (hm : X.mg "sorted" = none) (hg2 : Gl X "set") (hm2 : X.mg "set" = none) (ha : PE X a ta) (na : starEach [a] X.env = (false, eval a X.env) :: starEach [] X.env := by rfl) : PE X (.Call (.Name "sorted" p) [.Call (.Name "set" p2) [a] [] q] [] pos) (tSortSet2 X.K ta) := by
  refine ⟨fun pins s σ H Q I h => ?_⟩
  refine Call_ (ld_blt I hg hm (show bootBuiltins "sorted" = some (.builtin "sorted") by decide +kernel) ?_)
  refine callWith_builtin1 (args_cons ?_ rfl) rfl rfl
  refine Call_ (ld_blt I hg2 hm2 boot_set ?_)
  refine callWith_type1 (args_cons (thn (ha.run pins s σ H _ I h) fun v s1 ⟨x, H1, I1, r1, q1⟩ => args_nil ?_) na) na rfl
  obtain ⟨l, ns, rfl, hq, few, q1⟩ := q1
  cases r1
  rcases hq with hq1 | hq1
  · obtain ⟨its, r, pl, hz⟩ := I1.list hq1
    refine setL_call ns (I1.ok.hd hc) pl.isList (ints_of_vals r) (by unfold scanBound; omega) fun h2 tk c R lc kp => args_nil ?_
    have I2 : Inv X pins σ H1 { s1 with heap := h2, toks := tk } := I1.kept fun b o e => kp b o e
    have R2 : SetR X.w ({ s1 with heap := h2, toks := tk } : Shared).heap s1.heap.objs.size (fun j => decide (j ∈ ns)) c := R
    generalize { s1 with heap := h2, toks := tk } = s2 at I2 R2 ⊢
    refine sorted_set R2 (I2.ok.hd hc) (by omega) fun t n out c2 ys k2 g2 o2 hn at2 iv srt mem2 len2 => ?_
    have fr : H1 n = none := I2.hok.fresh hn
    have small : (ys.map V.int).length ≤ sizeLine := by rw [List.length_map, len2, sizeLine_eq]; omega
    have J : Inv X pins σ (upd H1 n (.lst (ys.map V.int))) { s2 with heap := t.heap, gens := t.gens, drawn := t.drawn, toks := t.toks } :=
      I2.call (ch := []) (Un.laid k2 hn fr) (I2.hok.laid k2 hn ⟨small, out.toList, c2, vals_of_ints iv, at2⟩) (by rw [g2]; exact I2.bare) (fun _ z => nomatch z)
    have same : t = { s2 with heap := t.heap, gens := t.gens, drawn := t.drawn, toks := t.toks } := by
      cases t; cases s2; cases o2; rfl
    rw [same]
    exact ⟨.ref n, _, J, rfl, q1 ys n srt (fun j => (mem2 j).trans decide_eq_true_iff) fr⟩
  · obtain ⟨its, r, pl, hz⟩ := I1.tuple hq1
    refine setT_call ns (I1.ok.hd hc) pl (ints_of_vals r) (by unfold scanBound; omega) fun h2 tk c R lc kp => args_nil ?_
    have I2 : Inv X pins σ H1 { s1 with heap := h2, toks := tk } := I1.kept fun b o e => kp b o e
    have R2 : SetR X.w ({ s1 with heap := h2, toks := tk } : Shared).heap s1.heap.objs.size (fun j => decide (j ∈ ns)) c := R
    generalize { s1 with heap := h2, toks := tk } = s2 at I2 R2 ⊢
    refine sorted_set R2 (I2.ok.hd hc) (by omega) fun t n out c2 ys k2 g2 o2 hn at2 iv srt mem2 len2 => ?_
    have fr : H1 n = none := I2.hok.fresh hn
    have small : (ys.map V.int).length ≤ sizeLine := by rw [List.length_map, len2, sizeLine_eq]; omega
    have J : Inv X pins σ (upd H1 n (.lst (ys.map V.int))) { s2 with heap := t.heap, gens := t.gens, drawn := t.drawn, toks := t.toks } :=
      I2.call (ch := []) (Un.laid k2 hn fr) (I2.hok.laid k2 hn ⟨small, out.toList, c2, vals_of_ints iv, at2⟩) (by rw [g2]; exact I2.bare) (fun _ z => nomatch z)
    have same : t = { s2 with heap := t.heap, gens := t.gens, drawn := t.drawn, toks := t.toks } := by
      cases t; cases s2; cases o2; rfl
    rw [same]
    exact ⟨.ref n, _, J, rfl, q1 ys n srt (fun j => (mem2 j).trans decide_eq_true_iff) fr⟩
def kSortedSet2 : D → Wp (List D) := fun x b R => ∃ ns : List Int, (x = .list (ns.map PyData.int) ∨ x = .tuple (ns.map PyData.int)) ∧ ns.length < 64 ∧ ∀ ys : List Int, ys.Pairwise (· < ·) → (∀ k, k ∈ ys ↔ k ∈ ns) → R (.ok (ys.map PyData.int)) b
theorem ef_sortedSet2 {fa : Env → Wp D} (G : Cxt X S W k) (hm : X.mg "sorted" = none) (hm2 : X.mg "set" = none) (ha : ET X S W a fa) (hg : Gl X "sorted" := by rfl) (hg2 : Gl X "set" := by rfl) (na : starEach [a] X.env = (false, eval a X.env) :: starEach [] X.env := by rfl) :
    EF X S W (.Call (.Name "sorted" p) [.Call (.Name "set" p2) [a] [] q] [] pos) (wk kSortedSet2 fa) := by
  obtain ⟨ta, pa, qa⟩ := ha
  refine ⟨_, pe_sortSet2 G.calm hg hm hg2 hm2 pa na, ?_⟩
  refine dg_b1 (r := rSortSet2 X.K) back_F (fun H0 δ σ F H b R Q v x rel hx hf P => ?_) qa
  obtain ⟨ns, hx2, hz, hf⟩ := hf
  rcases hx2 with rfl | rfl
  · obtain ⟨l, vs, rfl, h1, r1⟩ := hx.lst rel.sub
    have e := r1.toInts
    subst e
    exact ⟨l, ns, rfl, .inl (SqL.of h1), hz, fun ys n h2 h3 hn => P.ok _ _ (hf ys h2 h3) _ _ _ (rel.tmp hn) Ex.rfl' (Go.tmp hn) ⟨n, _, rfl, hn, upd_same, rel.sub.free hn, IsDs.ints _⟩⟩
  · obtain ⟨l, vs, rfl, h1, r1⟩ := hx.tup
    have e := r1.toInts
    subst e
    exact ⟨l, ns, rfl, .inr (SqT.of (rel.sub _ _ h1)), hz, fun ys n h2 h3 hn => P.ok _ _ (hf ys h2 h3) _ _ _ (rel.tmp hn) Ex.rfl' (Go.tmp hn) ⟨n, _, rfl, hn, upd_same, rel.sub.free hn, IsDs.ints _⟩⟩
end
section
variable {ns : List Int} {b : Nat} {R : Except Er (List D) → Nat → Prop}
theorem map_int_inj : ∀ {ns ms : List Int}, ns.map PyData.int = ms.map PyData.int → ns = ms
  | [], [], _ => rfl
  | [], _ :: _, h => by cases h
  | _ :: _, [], h => by cases h
  | n :: ns, m :: ms, h => by
    simp only [List.map_cons, List.cons.injEq, PyData.int.injEq] at h
    rw [h.1, map_int_inj h.2]
theorem sortedSet_l (hz : ns.length < 64) (h : ∀ ys : List Int, ys.Pairwise (· < ·) → (∀ k, k ∈ ys ↔ k ∈ ns) → R (.ok (ys.map PyData.int)) b) : kSortedSet2 (.list (ns.map PyData.int)) b R := ⟨ns, .inl rfl, hz, h⟩
theorem sortedSet_t (hz : ns.length < 64) (h : ∀ ys : List Int, ys.Pairwise (· < ·) → (∀ k, k ∈ ys ↔ k ∈ ns) → R (.ok (ys.map PyData.int)) b) : kSortedSet2 (.tuple (ns.map PyData.int)) b R := ⟨ns, .inr rfl, hz, h⟩
end
end BB
set_option Elab.async false
set_option linter.all false
set_option maxRecDepth 100000
set_option autoImplicit false
set_option maxHeartbeats 2000000
/-! Bb30: sum, max, min of a list or a tuple of numbers. -/
namespace BB
open PySem PySem.Spec PyProof.Rows L2 HotX L2H
section
variable {P : Program} {w : World} {A : Around} {E : Value → Shared → Prop} {s : Shared} {t : Addr}
theorem sumT_raw {its : List Value} {ns : List Int} {Q : Value → Shared → Prop} (hh : A.handled = none) (ht : s.heap.IsTuple t its.toArray) (hi : IntsAre its ns)
    (h : ∀ h' tk t', (∀ b o, s.heap.get? b = some o → h'.get? b = some o) → Q (.int ns.sum t') { s with heap := h', toks := tk }) : wpAny (model P w) A (call (.builtin "sum") [.ref t]) Q E s := by
  obtain ⟨xs, e⟩ := hi.allInts.items
  have hn : numsOf (intItems xs).toList = ns := by rw [← e]; exact hi.numsOf
  rw [nums_intItems] at hn
  rw [e] at ht
  refine PySem.W.ktm_sumG hh ht fun h' tk t' hk => ?_
  have := h h' tk t' hk
  rw [preSum_eq, List.take_of_length_le (by simp), hn]; exact this
theorem maxT_raw {its : List Value} {ns : List Int} {Q : Value → Shared → Prop} (hh : A.handled = none) (ht : s.heap.IsTuple t its.toArray) (hi : IntsAre its ns) (hne : 0 < ns.length)
    (h : ∀ h' tk M t', (∀ b o, s.heap.get? b = some o → h'.get? b = some o) → M ∈ ns → (∀ a, a ∈ ns → a ≤ M) → Q (.int M t') { s with heap := h', toks := tk }) : wpAny (model P w) A (call (.builtin "max") [.ref t]) Q E s := by
  obtain ⟨xs, e⟩ := hi.allInts.items
  have hn : numsOf (intItems xs).toList = ns := by rw [← e]; exact hi.numsOf
  rw [nums_intItems] at hn
  rw [e] at ht
  subst hn
  have hsz : 0 < xs.size := by simpa using hne
  obtain ⟨o, ho, hc, n, hd⟩ := id ht
  have hne2 : t ≠ s.heap.objs.size := Nat.ne_of_lt (Heap.lt_size ho)
  have hsz2 : (intItems xs).size = xs.size := by simp [intItems]
  have W := (Walks.tuple (prog := P) (w := w) (A := A.in1) hh s.heap.objs.size t hne2 (intItems xs)).toS
  rw [hsz2] at W
  refine call_max_walkS (wpAny_pyIter_tuple ht ?_)
  refine ⟨s.heap.objs.size, _, _, _, _, _, _, _, rfl, W, ⟨⟨_, Heap.get?_push_size _ rfl, rfl, rfl⟩, ht.at fun o e => Heap.get?_push_of_some _ e⟩, fun b hb => ?_, hsz, CmpOf.ints_gt (numAt xs) (fun _ _ => intItems_at), fun v s' hP hm => ?_⟩
  · rcases List.mem_cons.mp hb with rfl | hb
    · exact Heap.lt_size (Heap.get?_push_size _ rfl)
    · obtain rfl := List.mem_singleton.mp hb
      exact Heap.lt_size (Heap.get?_push_of_some _ ho)
  · obtain ⟨h', g', d', tk', os'⟩ := s'
    have e1 : g' = s.gens := hm.gens
    have e2 : d' = s.drawn := hm.drawn
    have e3 : os' = s.os := hm.os
    subst e1 e2 e3
    obtain ⟨t1, rfl⟩ := intItems_at hP
    obtain ⟨h1, h2⟩ := argBest_gt (numAt xs) (xs.size - 1)
    refine h h' tk' _ t1 (fun b o e => hm.heap b o (fun hb => absurd (Heap.lt_size e) ((List.mem_singleton.mp hb) ▸ Nat.lt_irrefl _)) (Heap.get?_push_of_some _ e)) ?_ fun a ha => ?_
    · rw [numAt_eq]; exact PySem.getD_mem (by rw [List.length_map, Array.length_toList]; omega)
    · obtain ⟨j, hj, rfl⟩ := mem_getD ha
      rw [List.length_map, Array.length_toList] at hj
      rw [← numAt_eq]; exact h2 j (by omega)
theorem minT_raw {its : List Value} {ns : List Int} {Q : Value → Shared → Prop} (hh : A.handled = none) (ht : s.heap.IsTuple t its.toArray) (hi : IntsAre its ns) (hne : 0 < ns.length)
    (h : ∀ h' tk M t', (∀ b o, s.heap.get? b = some o → h'.get? b = some o) → M ∈ ns → (∀ a, a ∈ ns → M ≤ a) → Q (.int M t') { s with heap := h', toks := tk }) : wpAny (model P w) A (call (.builtin "min") [.ref t]) Q E s := by
  obtain ⟨xs, e⟩ := hi.allInts.items
  have hn : numsOf (intItems xs).toList = ns := by rw [← e]; exact hi.numsOf
  rw [nums_intItems] at hn
  rw [e] at ht
  subst hn
  have hsz : 0 < xs.size := by simpa using hne
  obtain ⟨o, ho, hc, n, hd⟩ := id ht
  have hne2 : t ≠ s.heap.objs.size := Nat.ne_of_lt (Heap.lt_size ho)
  have hsz2 : (intItems xs).size = xs.size := by simp [intItems]
  have W := (Walks.tuple (prog := P) (w := w) (A := A.in1) hh s.heap.objs.size t hne2 (intItems xs)).toS
  rw [hsz2] at W
  refine call_min_walkS (wpAny_pyIter_tuple ht ?_)
  refine ⟨s.heap.objs.size, _, _, _, _, _, _, _, rfl, W, ⟨⟨_, Heap.get?_push_size _ rfl, rfl, rfl⟩, ht.at fun o e => Heap.get?_push_of_some _ e⟩, fun b hb => ?_, hsz, CmpOf.ints_lt (numAt xs) (fun _ _ => intItems_at), fun v s' hP hm => ?_⟩
  · rcases List.mem_cons.mp hb with rfl | hb
    · exact Heap.lt_size (Heap.get?_push_size _ rfl)
    · obtain rfl := List.mem_singleton.mp hb
      exact Heap.lt_size (Heap.get?_push_of_some _ ho)
  · obtain ⟨h', g', d', tk', os'⟩ := s'
    have e1 : g' = s.gens := hm.gens
    have e2 : d' = s.drawn := hm.drawn
    have e3 : os' = s.os := hm.os
    subst e1 e2 e3
    obtain ⟨t1, rfl⟩ := intItems_at hP
    obtain ⟨h1, h2⟩ := argBest_lt (numAt xs) (xs.size - 1)
    refine h h' tk' _ t1 (fun b o e => hm.heap b o (fun hb => absurd (Heap.lt_size e) ((List.mem_singleton.mp hb) ▸ Nat.lt_irrefl _)) (Heap.get?_push_of_some _ e)) ?_ fun a ha => ?_
    · rw [numAt_eq]; exact PySem.getD_mem (by rw [List.length_map, Array.length_toList]; omega)
    · obtain ⟨j, hj, rfl⟩ := mem_getD ha
      rw [List.length_map, Array.length_toList] at hj
      rw [← numAt_eq]; exact h2 j (by omega)
end
section
variable {X : Cx} {S : Sg} {W : WX} {k : Nat} {a : Expr} {p pos : Pos}
def rSumX (K : PySem.W.Frag) : List V → Hp → VK → Prop := fun vs H Q => ∃ (a : Addr) (ns : List Int), vs = [V.ref a] ∧ (SqL K H a (ns.map V.int) ∨ SqT K H a (ns.map V.int)) ∧ Q (.int ns.sum) H
def rMaxX (K : PySem.W.Frag) : List V → Hp → VK → Prop := fun vs H Q => ∃ (a : Addr) (ns : List Int), vs = [V.ref a] ∧ (SqL K H a (ns.map V.int) ∨ SqT K H a (ns.map V.int)) ∧ 0 < ns.length ∧ ∀ m, m ∈ ns → (∀ y, y ∈ ns → y ≤ m) → Q (.int m) H
def rMinX (K : PySem.W.Frag) : List V → Hp → VK → Prop := fun vs H Q => ∃ (a : Addr) (ns : List Int), vs = [V.ref a] ∧ (SqL K H a (ns.map V.int) ∨ SqT K H a (ns.map V.int)) ∧ 0 < ns.length ∧ ∀ m, m ∈ ns → (∀ y, y ∈ ns → m ≤ y) → Q (.int m) H
theorem cr_sumX (hc : X.calm = true) : CallR X (.builtin "sum") (rSumX X.K) := by
  intro pins s σ H vs us Q I r h
  obtain ⟨a, ns, rfl, hs | hs, q⟩ := h
  · exact cr_sum hc pins s σ H _ us Q I r ⟨a, ns, rfl, hs, q⟩
  · obtain ⟨its, rv, hl, _⟩ := I.tuple hs
    rw [Vals.ref1 r]
    exact sumT_raw (I.ok.hd hc) hl rv.ints fun h' tk t' hk => ⟨.int _, H, I.kept hk, ⟨_, rfl⟩, q⟩
theorem cr_maxX (hc : X.calm = true) : CallR X (.builtin "max") (rMaxX X.K) := by
  intro pins s σ H vs us Q I r h
  obtain ⟨a, ns, rfl, hs | hs, hne, q⟩ := h
  · exact cr_max hc pins s σ H _ us Q I r ⟨a, ns, rfl, hs, hne, q⟩
  · obtain ⟨its, rv, hl, _⟩ := I.tuple hs
    rw [Vals.ref1 r]
    exact maxT_raw (I.ok.hd hc) hl rv.ints hne fun h' tk m t' hk h1 h2 => ⟨.int _, H, I.kept hk, ⟨_, rfl⟩, q m h1 h2⟩
theorem cr_minX (hc : X.calm = true) : CallR X (.builtin "min") (rMinX X.K) := by
  intro pins s σ H vs us Q I r h
  obtain ⟨a, ns, rfl, hs | hs, hne, q⟩ := h
  · exact cr_min hc pins s σ H _ us Q I r ⟨a, ns, rfl, hs, hne, q⟩
  · obtain ⟨its, rv, hl, _⟩ := I.tuple hs
    rw [Vals.ref1 r]
    exact minT_raw (I.ok.hd hc) hl rv.ints hne fun h' tk m t' hk h1 h2 => ⟨.int _, H, I.kept hk, ⟨_, rfl⟩, q m h1 h2⟩
def kSumX : D → Wp D := fun x b R => ∃ ns : List Int, (x = .list (ns.map PyData.int) ∨ x = .tuple (ns.map PyData.int)) ∧ R (.ok (.int ns.sum)) b
def kMaxX : D → Wp D := fun x b R => ∃ ns : List Int, (x = .list (ns.map PyData.int) ∨ x = .tuple (ns.map PyData.int)) ∧ 0 < ns.length ∧ ∀ m, m ∈ ns → (∀ y, y ∈ ns → y ≤ m) → R (.ok (.int m)) b
def kMinX : D → Wp D := fun x b R => ∃ ns : List Int, (x = .list (ns.map PyData.int) ∨ x = .tuple (ns.map PyData.int)) ∧ 0 < ns.length ∧ ∀ m, m ∈ ns → (∀ y, y ∈ ns → m ≤ y) → R (.ok (.int m)) b
theorem ex_sumX {fa : Env → Wp D} (G : Cxt X S W k) (hm : X.mg "sum" = none) (ha : ET X S W a fa) (hg : Gl X "sum" := by rfl) (he : starEach [a] X.env = (false, eval a X.env) :: starEach [] X.env := by rfl) (hpl : (backTo pos (starEach [] X.env)).any (·.1) = false := by rfl) :
    EX X S W (.Call (.Name "sum" p) [a] [] pos) (wk kSumX fa) := by
  refine ex_b1 (fun H0 δ σ F H b R Q v x rel hx hf P => ?_) (cr_sumX G.calm) hm (by decide +kernel) ha hg (by decide) (by decide) he hpl
  obtain ⟨ns, rfl | rfl, hf⟩ := hf
  · obtain ⟨p, vs, rfl, h1, r1⟩ := hx.lst rel.sub
    have e := r1.toInts
    subst e
    exact ⟨p, ns, rfl, .inl (SqL.of h1), P.now rel hf (.int _)⟩
  · obtain ⟨p, vs, rfl, h1, r1⟩ := hx.tup
    have e := r1.toInts
    subst e
    exact ⟨p, ns, rfl, .inr (SqT.of (rel.sub _ _ h1)), P.now rel hf (.int _)⟩
theorem ex_maxX {fa : Env → Wp D} (G : Cxt X S W k) (hm : X.mg "max" = none) (ha : ET X S W a fa) (hg : Gl X "max" := by rfl) (he : starEach [a] X.env = (false, eval a X.env) :: starEach [] X.env := by rfl) (hpl : (backTo pos (starEach [] X.env)).any (·.1) = false := by rfl) :
    EX X S W (.Call (.Name "max" p) [a] [] pos) (wk kMaxX fa) := by
  refine ex_b1 (fun H0 δ σ F H b R Q v x rel hx hf P => ?_) (cr_maxX G.calm) hm (by decide +kernel) ha hg (by decide) (by decide) he hpl
  obtain ⟨ns, rfl | rfl, hz, hf⟩ := hf
  · obtain ⟨p, vs, rfl, h1, r1⟩ := hx.lst rel.sub
    have e := r1.toInts
    subst e
    exact ⟨p, ns, rfl, .inl (SqL.of h1), hz, fun m h2 h3 => P.now rel (hf m h2 h3) (.int _)⟩
  · obtain ⟨p, vs, rfl, h1, r1⟩ := hx.tup
    have e := r1.toInts
    subst e
    exact ⟨p, ns, rfl, .inr (SqT.of (rel.sub _ _ h1)), hz, fun m h2 h3 => P.now rel (hf m h2 h3) (.int _)⟩
theorem ex_minX {fa : Env → Wp D} (G : Cxt X S W k) (hm : X.mg "min" = none) (ha : ET X S W a fa) (hg : Gl X "min" := by rfl) (he : starEach [a] X.env = (false, eval a X.env) :: starEach [] X.env := by rfl) (hpl : (backTo pos (starEach [] X.env)).any (·.1) = false := by rfl) :
    EX X S W (.Call (.Name "min" p) [a] [] pos) (wk kMinX fa) := by
  refine ex_b1 (fun H0 δ σ F H b R Q v x rel hx hf P => ?_) (cr_minX G.calm) hm (by decide +kernel) ha hg (by decide) (by decide) he hpl
  obtain ⟨ns, rfl | rfl, hz, hf⟩ := hf
  · obtain ⟨p, vs, rfl, h1, r1⟩ := hx.lst rel.sub
    have e := r1.toInts
    subst e
    exact ⟨p, ns, rfl, .inl (SqL.of h1), hz, fun m h2 h3 => P.now rel (hf m h2 h3) (.int _)⟩
  · obtain ⟨p, vs, rfl, h1, r1⟩ := hx.tup
    have e := r1.toInts
    subst e
    exact ⟨p, ns, rfl, .inr (SqT.of (rel.sub _ _ h1)), hz, fun m h2 h3 => P.now rel (hf m h2 h3) (.int _)⟩
end
end BB
set_option Elab.async false
set_option linter.all false
set_option maxRecDepth 100000
set_option autoImplicit false
set_option maxHeartbeats 2000000
/-! Bb31: any, all of a list of numbers and truth values; x and y, x or y by truth. -/
namespace BB
open PySem PySem.Spec PyProof.Rows L2 HotX L2H
/-- a number or a truth value -/
def smallD : D → Bool
  | .bool _ => true
  | .int _ => true
  | _ => false
/-- its truth -/
def truD : D → Bool
  | .bool k => k
  | .int i => i != 0
  | _ => false
theorem small_plain : ∀ {ds : List D}, ds.all smallD = true → PyData.plainAll ds = true ∧ (∀ d ∈ ds, d.fits63) ∧ ds.any PyData.truthy = ds.any truD ∧ ds.all PyData.truthy = ds.all truD
  | [], _ => ⟨rfl, (fun d hd => nomatch hd), rfl, rfl⟩
  | d :: ds, h => by
    rw [List.all_cons, Bool.and_eq_true] at h
    obtain ⟨a, b, c, e⟩ := small_plain h.2
    cases d with
    | bool k => exact ⟨by rw [PyData.plainAll, a]; rfl, fun x hx => by
        rcases List.mem_cons.1 hx with rfl | hx
        · trivial
        · exact b x hx, by rw [List.any_cons, List.any_cons, c]; rfl, by rw [List.all_cons, List.all_cons, e]; rfl⟩
    | int k => exact ⟨by rw [PyData.plainAll, a]; rfl, fun x hx => by
        rcases List.mem_cons.1 hx with rfl | hx
        · trivial
        · exact b x hx, by rw [List.any_cons, List.any_cons, c]; rfl, by rw [List.all_cons, List.all_cons, e]; rfl⟩
    | _ => exact absurd h.1 (by simp [smallD])
section
variable {X : Cx} {S : Sg} {W : WX} {k : Nat} {a b : Expr} {p pos : Pos}
theorem cr_anyX (G : Cxt X S W k) : CallR X (.builtin "any") (fun xs H Q => ∃ a ds, xs = [.ref a] ∧ Dp X.K H (.ref a) (.list ds) ∧ ds.all smallD = true ∧ Q (.bl (ds.any truD)) H) := by
  intro pins s σ H vs us Q I r h
  obtain ⟨a, ds, rfl, hd, hs, q⟩ := h
  obtain ⟨u, rfl, ru⟩ := vals1 r
  obtain ⟨as, rd⟩ := Dp.reads I (.list ds) _ u hd ru
  obtain ⟨h1, h2, h3, _⟩ := small_plain hs
  cases ru
  cases rd with
  | list e1 e2 e3 e4 =>
    refine PySem.W.any_list_data (I.ok.hd G.calm) ⟨_, e1, e2, _, e3⟩ e4 h1 h2 fun h' tk hk => ?_
    rw [h3]
    exact ⟨.bl _, H, I.kept (t' := tk) hk, rfl, q⟩
theorem cr_allX (G : Cxt X S W k) : CallR X (.builtin "all") (fun xs H Q => ∃ a ds, xs = [.ref a] ∧ Dp X.K H (.ref a) (.list ds) ∧ ds.all smallD = true ∧ Q (.bl (ds.all truD)) H) := by
  intro pins s σ H vs us Q I r h
  obtain ⟨a, ds, rfl, hd, hs, q⟩ := h
  obtain ⟨u, rfl, ru⟩ := vals1 r
  obtain ⟨as, rd⟩ := Dp.reads I (.list ds) _ u hd ru
  obtain ⟨h1, h2, _, h3⟩ := small_plain hs
  cases ru
  cases rd with
  | list e1 e2 e3 e4 =>
    refine PySem.W.all_list_data (I.ok.hd G.calm) ⟨_, e1, e2, _, e3⟩ e4 h1 h2 fun h' tk hk => ?_
    rw [h3]
    exact ⟨.bl _, H, I.kept (t' := tk) hk, rfl, q⟩
def kAnyX : D → Wp D := fun x b R => match x with
  | .list ds => ds.all smallD = true ∧ R (.ok (.bool (ds.any truD))) b
  | _ => False
def kAllX : D → Wp D := fun x b R => match x with
  | .list ds => ds.all smallD = true ∧ R (.ok (.bool (ds.all truD))) b
  | _ => False
theorem ex_anyX {fa : Env → Wp D} (G : Cxt X S W k) (hm : X.mg "any" = none) (ha : ET X S W a fa) (hg : Gl X "any" := by rfl) (he : starEach [a] X.env = (false, eval a X.env) :: starEach [] X.env := by rfl) (hpl : (backTo pos (starEach [] X.env)).any (·.1) = false := by rfl) :
    EX X S W (.Call (.Name "any" p) [a] [] pos) (wk kAnyX fa) := by
  refine ex_b1 (fun H0 δ σ F H b R Q v x rel hx hf P => ?_) (cr_anyX G) hm (by decide +kernel) ha hg (by decide) (by decide) he hpl
  have dp := hx.dp (K := X.K) rel.sub
  cases x with
  | list ds =>
    obtain ⟨p, vs, rfl, h1, r1⟩ := hx.lst rel.sub
    exact ⟨p, _, rfl, dp, hf.1, P.now rel hf.2 (.bl _)⟩
  | _ => exact hf.elim
theorem ex_allX {fa : Env → Wp D} (G : Cxt X S W k) (hm : X.mg "all" = none) (ha : ET X S W a fa) (hg : Gl X "all" := by rfl) (he : starEach [a] X.env = (false, eval a X.env) :: starEach [] X.env := by rfl) (hpl : (backTo pos (starEach [] X.env)).any (·.1) = false := by rfl) :
    EX X S W (.Call (.Name "all" p) [a] [] pos) (wk kAllX fa) := by
  refine ex_b1 (fun H0 δ σ F H b R Q v x rel hx hf P => ?_) (cr_allX G) hm (by decide +kernel) ha hg (by decide) (by decide) he hpl
  have dp := hx.dp (K := X.K) rel.sub
  cases x with
  | list ds =>
    obtain ⟨p, vs, rfl, h1, r1⟩ := hx.lst rel.sub
    exact ⟨p, _, rfl, dp, hf.1, P.now rel hf.2 (.bl _)⟩
  | _ => exact hf.elim
def wandX (f g : Env → Wp D) : Env → Wp D := fun δ => wbind (f δ) fun x b R => match x with
  | .bool k => if k = true then g δ b R else R (.ok (.bool k)) b
  | .int i => if (i != 0) = true then g δ b R else R (.ok (.int i)) b
  | _ => False
def worX (f g : Env → Wp D) : Env → Wp D := fun δ => wbind (f δ) fun x b R => match x with
  | .bool k => if k = true then R (.ok (.bool k)) b else g δ b R
  | .int i => if (i != 0) = true then R (.ok (.int i)) b else g δ b R
  | _ => False
theorem ex_andX {es : List Expr} {f g : Env → Wp D} (ha : EX X S W a f) (hb : EX X S W (.BoolOp .And (b :: es) pos) g) : EX X S W (.BoolOp .And (a :: b :: es) pos) (wandX f g) := by
  obtain ⟨t, p, q⟩ := ha
  obtain ⟨u, p', q'⟩ := hb
  refine ⟨_, pe_andT p p', ?_⟩
  refine dg_seq (t2 := fun x σ H Q => ∃ k, TruV X.K x H k ∧ if k = true then u σ H Q else Q x H) q back_V fun H0 δ σ Hp0 F H b R Q y x rel o hf P => ?_
  cases x with
  | bool c =>
    cases o
    refine ⟨c, rfl, ?_⟩
    cases c with
    | true => show u σ H Q; exact q' H0 δ σ F H b R Q rel hf P
    | false => show Q (.bl false) H; exact P.now rel hf (.bl _)
  | int i =>
    cases o
    refine ⟨i != 0, rfl, ?_⟩
    by_cases c : (i != 0) = true
    · rw [if_pos c]
      have hf : (if (i != 0) = true then g δ b R else R (.ok (.int i)) b) := hf
      rw [if_pos c] at hf
      exact q' H0 δ σ F H b R Q rel hf P
    · rw [if_neg c]
      have hf : (if (i != 0) = true then g δ b R else R (.ok (.int i)) b) := hf
      rw [if_neg c] at hf
      exact P.now rel hf (.int _)
  | _ => exact hf.elim
theorem ex_orX {es : List Expr} {f g : Env → Wp D} (ha : EX X S W a f) (hb : EX X S W (.BoolOp .Or (b :: es) pos) g) : EX X S W (.BoolOp .Or (a :: b :: es) pos) (worX f g) := by
  obtain ⟨t, p, q⟩ := ha
  obtain ⟨u, p', q'⟩ := hb
  refine ⟨_, pe_orT p p', ?_⟩
  refine dg_seq (t2 := fun x σ H Q => ∃ k, TruV X.K x H k ∧ if k = true then Q x H else u σ H Q) q back_V fun H0 δ σ Hp0 F H b R Q y x rel o hf P => ?_
  cases x with
  | bool c =>
    cases o
    refine ⟨c, rfl, ?_⟩
    cases c with
    | true => show Q (.bl true) H; exact P.now rel hf (.bl _)
    | false => show u σ H Q; exact q' H0 δ σ F H b R Q rel hf P
  | int i =>
    cases o
    refine ⟨i != 0, rfl, ?_⟩
    by_cases c : (i != 0) = true
    · rw [if_pos c]
      have hf : (if (i != 0) = true then R (.ok (.int i)) b else g δ b R) := hf
      rw [if_pos c] at hf
      exact P.now rel hf (.int _)
    · rw [if_neg c]
      have hf : (if (i != 0) = true then R (.ok (.int i)) b else g δ b R) := hf
      rw [if_neg c] at hf
      exact q' H0 δ σ F H b R Q rel hf P
  | _ => exact hf.elim
def wnotX (f : Env → Wp D) : Env → Wp D := fun δ => wbind (f δ) fun x b R => match x with
  | .bool k => R (.ok (.bool (!k))) b
  | .int i => R (.ok (.bool (!(i != 0)))) b
  | _ => False
theorem ex_notX {f : Env → Wp D} (ha : EX X S W a f) : EX X S W (.UnaryOp .Not a pos) (wnotX f) := by
  obtain ⟨t, p, q⟩ := ha
  refine ⟨_, pe_notT p, ?_⟩
  refine dg_seq (t2 := fun x σ H Q => ∃ k, TruV X.K x H k ∧ Q (.bl (!k)) H) q back_V fun H0 δ σ Hp0 F H b R Q y x rel o hf P => ?_
  cases x with
  | bool c =>
    cases o
    exact ⟨c, rfl, P.now rel hf (.bl _)⟩
  | int i =>
    cases o
    exact ⟨i != 0, rfl, P.now rel hf (.bl _)⟩
  | _ => exact hf.elim
end
section
variable {f g : Env → Wp D} {δ : Env} {b : Nat} {ds : List D} {RD : Except Er D → Nat → Prop} {kk : Bool} {i : Int} {er : Er}
@[simp ↓] theorem e_kAnyX : kAnyX (.list ds) b RD = (ds.all smallD = true ∧ RD (.ok (.bool (ds.any truD))) b) := id rfl
@[simp ↓] theorem e_kAllX : kAllX (.list ds) b RD = (ds.all smallD = true ∧ RD (.ok (.bool (ds.all truD))) b) := id rfl
def KAX (g : Env → Wp D) (δ : Env) (R : Except Er D → Nat → Prop) : Except Er D → Nat → Prop := fun r b => match r with
  | .ok (.bool k) => if k = true then g δ b R else R (.ok (.bool k)) b
  | .ok (.int i) => if (i != 0) = true then g δ b R else R (.ok (.int i)) b
  | .ok _ => False
  | .error e => R (.error e) b
def KOX (g : Env → Wp D) (δ : Env) (R : Except Er D → Nat → Prop) : Except Er D → Nat → Prop := fun r b => match r with
  | .ok (.bool k) => if k = true then R (.ok (.bool k)) b else g δ b R
  | .ok (.int i) => if (i != 0) = true then R (.ok (.int i)) b else g δ b R
  | .ok _ => False
  | .error e => R (.error e) b
@[simp ↓] theorem KAX_t : KAX g δ RD (.ok (.bool true)) b = g δ b RD := id rfl
@[simp ↓] theorem KAX_f : KAX g δ RD (.ok (.bool false)) b = RD (.ok (.bool false)) b := id rfl
@[simp ↓] theorem KAX_0 : KAX g δ RD (.ok (.int 0)) b = RD (.ok (.int 0)) b := id rfl
@[simp ↓] theorem KAX_1 : KAX g δ RD (.ok (.int 1)) b = g δ b RD := id rfl
@[simp ↓] theorem KAX_er : KAX g δ RD (.error er) b = RD (.error er) b := id rfl
@[simp ↓] theorem KOX_t : KOX g δ RD (.ok (.bool true)) b = RD (.ok (.bool true)) b := id rfl
@[simp ↓] theorem KOX_f : KOX g δ RD (.ok (.bool false)) b = g δ b RD := id rfl
@[simp ↓] theorem KOX_0 : KOX g δ RD (.ok (.int 0)) b = g δ b RD := id rfl
@[simp ↓] theorem KOX_1 : KOX g δ RD (.ok (.int 1)) b = RD (.ok (.int 1)) b := id rfl
@[simp ↓] theorem KOX_er : KOX g δ RD (.error er) b = RD (.error er) b := id rfl
@[simp ↓] theorem k_wandX : wandX f g δ b RD = f δ b (KAX g δ RD) := by
  show f δ b _ = _
  congr 1; funext r b'
  cases r with
  | error e => rfl
  | ok x => cases x <;> rfl
def KNX (R : Except Er D → Nat → Prop) : Except Er D → Nat → Prop := fun r b => match r with
  | .ok (.bool k) => R (.ok (.bool (!k))) b
  | .ok (.int i) => R (.ok (.bool (!(i != 0)))) b
  | .ok _ => False
  | .error e => R (.error e) b
@[simp ↓] theorem KNX_b : KNX RD (.ok (.bool kk)) b = RD (.ok (.bool (!kk))) b := id rfl
@[simp ↓] theorem KNX_i : KNX RD (.ok (.int i)) b = RD (.ok (.bool (!(i != 0)))) b := id rfl
@[simp ↓] theorem KNX_er : KNX RD (.error er) b = RD (.error er) b := id rfl
@[simp ↓] theorem k_wnotX : wnotX f δ b RD = f δ b (KNX RD) := by
  show f δ b _ = _
  congr 1; funext r b'
  cases r with
  | error e => rfl
  | ok x => cases x <;> rfl
@[simp ↓] theorem k_worX : worX f g δ b RD = f δ b (KOX g δ RD) := by
  show f δ b _ = _
  congr 1; funext r b'
  cases r with
  | error e => rfl
  | ok x => cases x <;> rfl
end
end BB
set_option Elab.async false
set_option linter.all false
set_option maxRecDepth 100000
set_option autoImplicit false
set_option maxHeartbeats 2000000
/-! Bb32: sorted(set(x)) of up to 4000 numbers. -/
namespace BB
open PySem PySem.Spec PyProof.Rows L2 HotX L2H
section
variable {P : Program} {w : World} {A : Around} {E : Value → Shared → Prop} {s : Shared} {a : Addr}
/-- a set of numbers in order, however many -/
theorem set_in_order {M : Int → Bool} {c : Nat} {Q : Value → Shared → Prop} (rs : SetR w s.heap a M c) (q0 : A.handled = none) (few : c < scanBound)
    (fin : ∀ t p (out : Array Value) (e : Nat) (ys : List Int), (∀ b o, s.heap.get? b = some o → t.heap.get? b = some o) → t.gens = s.gens → t.os = s.os → s.heap.objs.size ≤ p →
      t.heap.get? p = some (seqObj "list" out e) → IntsAre out.toList ys → ys.Pairwise (· < ·) → (∀ k, k ∈ ys ↔ M k = true) → ys.length = c → Q (.ref p) t) :
    wpAny (model P w) A (call (.builtin "sorted") [.ref a]) Q E s := by
  obtain ⟨ob, es, ep, tb, at0, ex, dt, ks, nd, mm, bd, ft, cnt, ris, led⟩ := rs
  refine Calls.call_function_entry kind_sorted plain_sorted entry_sorted (args_sorted1 _) ?_; unfold Builtin.«sorted»
  refine wpAny_bind (m := checkCount "sorted" 1 1 _) (wpAny_pure ?_); refine wpAny_bind (collect_set (A := A.in1) q0 ⟨ob, at0, ex.1, dt⟩ ft bd ris led fun s1 us kp sz gs os pm => ?_)
  have ul : us.length = c := (pm.length_eq.trans (by rw [List.length_map, Array.length_toList])).trans cnt
  have cl : c ≤ sizeLine := by have : scanBound = 4096 := rfl
                               rw [sizeLine_eq]; omega
  have ui : IntsAre us (us.map Builtin.Re.reRawOf) := ints_of us fun v hv => by
    obtain ⟨e, he, rfl⟩ := List.mem_map.1 (pm.mem_iff.1 hv); obtain ⟨k, tk, ek, _⟩ := ks e he; exact ⟨k, tk, ek⟩
  have up : (us.map Builtin.Re.reRawOf).Perm (es.toList.map keyOf) := by have z := pm.map Builtin.Re.reRawOf; rwa [List.map_map] at z
  refine wpAny_bind (wpAny_newList ?_ (by rw [ul]; exact cl))
  have here : (s1.heap.push (seqObj "list" us.toArray 0)).get? s1.heap.objs.size = some (seqObj "list" us.toArray 0) := Heap.get?_push_size _ rfl
  refine wpAny_bind (wpAny_holding (wpAny_call_entry slot_list_sort ⟨_, here, rfl⟩ entry_list_sort (list_sort_treeAny here ui (by rw [ul]; exact cl) fun out ys i1 i2 i3 => ⟨_, rfl, ?_⟩) (args_list_sort _)))
  obtain ⟨e, he⟩ := sortedHeap_at (vs := us) (out := out) here
  have yp : ys.Perm (es.toList.map keyOf) := i2.trans up
  refine wpAny_pure ⟨_, rfl, fin _ s1.heap.objs.size out e ys (fun b u hb => ?_) gs os sz he i1 (lt_of_le_nodup ys i3 (yp.nodup_iff.2 nd)) (fun k => by rw [yp.mem_iff, ← mm k]) (by rw [yp.length_eq, List.length_map, Array.length_toList]; exact cnt)⟩
  have old := Heap.lt_size (kp b u hb)
  show (sortedHeap (s1.heap.push (seqObj "list" us.toArray 0)) s1.heap.objs.size us out).get? b = some u
  rw [sortedHeap_old (Nat.ne_of_lt old) (by rw [size_push']; exact Nat.lt_succ_of_lt old)]; exact Heap.get?_push_of_some _ (kp b u hb)
end
section
variable {X : Cx} {S : Sg} {W : WX} {k : Nat} {a : Expr} {ta : TE} {p p2 q pos : Pos}
def rSortSet3 (K : PySem.W.Frag) (x : V) (H1 : Hp) (Q : VK) : Prop := ∃ (l : Addr) (ns : List Int), x = .ref l ∧ (SqL K H1 l (ns.map V.int) ∨ SqT K H1 l (ns.map V.int)) ∧ ns.length < 4000 ∧
  ∀ (ys : List Int) (n : Addr), ys.Pairwise (· < ·) → (∀ k, k ∈ ys ↔ k ∈ ns) → H1 n = none → Q (.ref n) (upd H1 n (.lst (ys.map V.int)))
def tSortSet3 (K : PySem.W.Frag) (ta : TE) : TE := fun σ H Q => ta σ H fun x H1 => rSortSet3 K x H1 Q
theorem pe_sortSet3 (hc : X.calm = true) (hg : Gl X "sorted") (hm : X.mg "sorted" = none) (hg2 : Gl X "set") (hm2 : X.mg "set" = none) (ha : PE X a ta) (na : starEach [a] X.env = (false, eval a X.env) :: starEach [] X.env := by rfl) : PE X (.Call (.Name "sorted" p) [.Call (.Name "set" p2) [a] [] q] [] pos) (tSortSet3 X.K ta) := by
  refine ⟨fun pins s σ H Q I h => ?_⟩
  refine Call_ (ld_blt I hg hm (show bootBuiltins "sorted" = some (.builtin "sorted") by decide +kernel) ?_)
  refine callWith_builtin1 (args_cons ?_ rfl) rfl rfl
  refine Call_ (ld_blt I hg2 hm2 boot_set ?_)
  refine callWith_type1 (args_cons (thn (ha.run pins s σ H _ I h) fun v s1 ⟨x, H1, I1, r1, q1⟩ => args_nil ?_) na) na rfl
  obtain ⟨l, ns, rfl, hq, few, q1⟩ := q1
  cases r1
  have fb : ns.length + 1 < scanBound := by have : scanBound = 4096 := rfl
                                            omega
  have nxt : ∀ (h2 : Heap) (tk c : Nat), SetR X.w h2 s1.heap.objs.size (fun j => decide (j ∈ ns)) c → c ≤ ns.length → (∀ b o, s1.heap.get? b = some o → h2.get? b = some o) → wpAny (model X.prog X.w) X.A (call (.builtin "sorted") [.ref s1.heap.objs.size]) (EP X pins σ Q) X.xe { s1 with heap := h2, toks := tk } := fun h2 tk c R lc kp => by
    have I2 : Inv X pins σ H1 { s1 with heap := h2, toks := tk } := I1.kept fun b o e => kp b o e
    have R2 : SetR X.w ({ s1 with heap := h2, toks := tk } : Shared).heap s1.heap.objs.size (fun j => decide (j ∈ ns)) c := R
    generalize { s1 with heap := h2, toks := tk } = s2 at I2 R2 ⊢
    refine set_in_order R2 (I2.ok.hd hc) (by omega) fun t n out c2 ys k2 g2 o2 hn at2 iv srt mem2 len2 => ?_
    have fr : H1 n = none := I2.hok.fresh hn
    have small : (ys.map V.int).length ≤ sizeLine := by rw [List.length_map, len2, sizeLine_eq]; omega
    have J : Inv X pins σ (upd H1 n (.lst (ys.map V.int))) { s2 with heap := t.heap, gens := t.gens, drawn := t.drawn, toks := t.toks } :=
      I2.call (ch := []) (Un.laid k2 hn fr) (I2.hok.laid k2 hn ⟨small, out.toList, c2, vals_of_ints iv, at2⟩) (by rw [g2]; exact I2.bare) (fun _ z => nomatch z)
    have same : t = { s2 with heap := t.heap, gens := t.gens, drawn := t.drawn, toks := t.toks } := by
      cases t; cases s2; cases o2; rfl
    rw [same]
    exact ⟨.ref n, _, J, rfl, q1 ys n srt (fun j => (mem2 j).trans decide_eq_true_iff) fr⟩
  rcases hq with hq1 | hq1
  · obtain ⟨its, r, pl, hz⟩ := I1.list hq1
    exact setL_call ns (I1.ok.hd hc) pl.isList (ints_of_vals r) fb fun h2 tk c R lc kp => args_nil (nxt h2 tk c R lc kp)
  · obtain ⟨its, r, pl, hz⟩ := I1.tuple hq1
    exact setT_call ns (I1.ok.hd hc) pl (ints_of_vals r) fb fun h2 tk c R lc kp => args_nil (nxt h2 tk c R lc kp)
def kSortedSet3 : D → Wp (List D) := fun x b R => ∃ ns : List Int, (x = .list (ns.map PyData.int) ∨ x = .tuple (ns.map PyData.int)) ∧ ns.length < 4000 ∧ ∀ ys : List Int, ys.Pairwise (· < ·) → (∀ k, k ∈ ys ↔ k ∈ ns) → R (.ok (ys.map PyData.int)) b
theorem ef_sortedSet3 {fa : Env → Wp D} (G : Cxt X S W k) (hm : X.mg "sorted" = none) (hm2 : X.mg "set" = none) (ha : ET X S W a fa) (hg : Gl X "sorted" := by rfl) (hg2 : Gl X "set" := by rfl) (na : starEach [a] X.env = (false, eval a X.env) :: starEach [] X.env := by rfl) :
    EF X S W (.Call (.Name "sorted" p) [.Call (.Name "set" p2) [a] [] q] [] pos) (wk kSortedSet3 fa) := by
  obtain ⟨ta, pa, qa⟩ := ha
  refine ⟨_, pe_sortSet3 G.calm hg hm hg2 hm2 pa na, ?_⟩
  refine dg_b1 (r := rSortSet3 X.K) back_F (fun H0 δ σ F H b R Q v x rel hx hf P => ?_) qa
  obtain ⟨ns, hx2, hz, hf⟩ := hf
  rcases hx2 with rfl | rfl
  · obtain ⟨l, vs, rfl, h1, r1⟩ := hx.lst rel.sub
    have e := r1.toInts
    subst e
    exact ⟨l, ns, rfl, .inl (SqL.of h1), hz, fun ys n h2 h3 hn => P.ok _ _ (hf ys h2 h3) _ _ _ (rel.tmp hn) Ex.rfl' (Go.tmp hn) ⟨n, _, rfl, hn, upd_same, rel.sub.free hn, IsDs.ints _⟩⟩
  · obtain ⟨l, vs, rfl, h1, r1⟩ := hx.tup
    have e := r1.toInts
    subst e
    exact ⟨l, ns, rfl, .inr (SqT.of (rel.sub _ _ h1)), hz, fun ys n h2 h3 hn => P.ok _ _ (hf ys h2 h3) _ _ _ (rel.tmp hn) Ex.rfl' (Go.tmp hn) ⟨n, _, rfl, hn, upd_same, rel.sub.free hn, IsDs.ints _⟩⟩
theorem sortedSet3_l {ns : List Int} {b : Nat} {R : Except Er (List D) → Nat → Prop} (hz : ns.length < 4000) (h : ∀ ys : List Int, ys.Pairwise (· < ·) → (∀ k, k ∈ ys ↔ k ∈ ns) → R (.ok (ys.map PyData.int)) b) : kSortedSet3 (.list (ns.map PyData.int)) b R := ⟨ns, .inl rfl, hz, h⟩
theorem sortedSet3_t {ns : List Int} {b : Nat} {R : Except Er (List D) → Nat → Prop} (hz : ns.length < 4000) (h : ∀ ys : List Int, ys.Pairwise (· < ·) → (∀ k, k ∈ ys ↔ k ∈ ns) → R (.ok (ys.map PyData.int)) b) : kSortedSet3 (.tuple (ns.map PyData.int)) b R := ⟨ns, .inr rfl, hz, h⟩
end
end BB
set_option Elab.async false
set_option linter.all false
set_option maxRecDepth 100000
set_option autoImplicit false
set_option maxHeartbeats 2000000
/-! Bb33: two new lists put together to a third. -/
namespace BB
open PySem PySem.Spec PyProof.Rows L2 HotX L2H
section
variable {X : Cx} {S : Sg} {W : WX} {k : Nat} {a b : Expr} {pos : Pos}
def wcat (fa fb : Env → Wp (List D)) : Env → Wp (List D) := fun δ => wbind (fa δ) fun xs => wbind (fb δ) fun ys b R => xs.length + ys.length ≤ sizeLine ∧ R (.ok (xs ++ ys)) b
theorem ef_cat {fa fb : Env → Wp (List D)} (ha : EF X S W a fa) (hb : EF X S W b fb) : EF X S W (.BinOp a .Add b pos) (wcat fa fb) := by
  obtain ⟨t, pa, q⟩ := ha
  obtain ⟨u, pb, q'⟩ := hb
  refine ⟨_, pe_op op_cat pa pb, fun H0 δ σ F H b R Q rel hf P => ?_⟩
  refine q H0 δ σ F H b _ _ rel hf ⟨fun ds b1 r1 v F1 H1 rel1 x1 g1 o1 => ?_, P.er⟩
  obtain ⟨p, vs, rfl, n0, hp, nf, hv⟩ := o1
  have ns := rel.sto.here n0
  refine q' H0 δ σ F1 H1 b1 _ _ rel1 r1 ⟨fun es b2 r2 v2 F2 H2 rel2 x2 g2 o2 => ?_, fun e b' r F' H' q x g => P.er e b' r F' H' q (x1.tr x) (g1.tr rel1.sto g)⟩
  obtain ⟨p2, us, rfl, n2, hp2, nf2, hu⟩ := o2
  obtain ⟨hz, r3⟩ := r2
  refine ⟨p, p2, vs, us, rfl, rfl, g2.fr p _ hp ns, hp2, by rw [hv.length, hu.length]; exact hz, fun n hn => ?_⟩
  exact P.ok _ b2 r3 _ _ _ (rel2.tmp hn) (x1.tr x2) ((g1.tr rel1.sto g2).tr rel2.sto (Go.tmp hn)) ⟨n, _, rfl, (g1.tr rel1.sto g2).fr.free rel2.sto hn, upd_same, rel2.sub.free hn, (hv.mono x2).append hu⟩
end
end BB
set_option Elab.async false
set_option linter.all false
set_option maxRecDepth 100000
set_option autoImplicit false
set_option maxHeartbeats 2000000
/-! Bb34: a dict walked over: locked while it is read. -/
namespace BB
open PySem PySem.Spec PyProof.Rows L2 HotX L2H
/-- the lock on n goes: other names for it are forgotten -/
def unlkC (n : Addr) : Option Cell → Option Cell
  | some (.lk a kvs) => if a = n then none else some (.lk a kvs)
  | some (.lt a kvs) => if a = n then none else some (.lt a kvs)
  | c => c
theorem unlkC_some {n : Addr} {c : Cell} : ∀ {x : Option Cell}, unlkC n x = some c → x = some c ∧ (∀ kvs, c ≠ .lk n kvs) ∧ (∀ kvs, c ≠ .lt n kvs)
  | none, h => by cases h
  | some (.val _), h => by cases h; exact ⟨rfl, (fun _ z => nomatch z), (fun _ z => nomatch z)⟩
  | some .st, h => by cases h; exact ⟨rfl, (fun _ z => nomatch z), (fun _ z => nomatch z)⟩
  | some (.own _), h => by cases h; exact ⟨rfl, (fun _ z => nomatch z), (fun _ z => nomatch z)⟩
  | some (.dk _), h => by cases h; exact ⟨rfl, (fun _ z => nomatch z), (fun _ z => nomatch z)⟩
  | some (.dt _), h => by cases h; exact ⟨rfl, (fun _ z => nomatch z), (fun _ z => nomatch z)⟩
  | some (.ro _), h => by cases h; exact ⟨rfl, (fun _ z => nomatch z), (fun _ z => nomatch z)⟩
  | some (.lk a l), h => by
    have h : (if a = n then none else some (Cell.lk a l)) = some c := h
    by_cases ne : a = n
    · rw [if_pos ne] at h; cases h
    · rw [if_neg ne] at h
      cases h
      exact ⟨rfl, (fun _ z => ne (by cases z; rfl)), (fun _ z => nomatch z)⟩
  | some (.lt a l), h => by
    have h : (if a = n then none else some (Cell.lt a l)) = some c := h
    by_cases ne : a = n
    · rw [if_pos ne] at h; cases h
    · rw [if_neg ne] at h
      cases h
      exact ⟨rfl, (fun _ z => nomatch z), (fun _ z => ne (by cases z; rfl))⟩
/-- what stands for ever, but not at n -/
def offA (F : Hp) (n : Addr) : Hp := fun a => if a = n then none else F a
theorem offA_ne {F : Hp} {n a : Addr} (h : a ≠ n) : offA F n a = F a := if_neg h
theorem offA_same {F : Hp} {n : Addr} : offA F n n = none := if_pos rfl
theorem offA_some {F : Hp} {n a : Addr} {o : HO} (h : offA F n a = some o) : a ≠ n ∧ F a = some o := by
  unfold offA at h
  split at h
  · cases h
  · exact ⟨by assumption, h⟩
mutual
theorem isd_off {F : Hp} {n : Addr} {od : Obj} {u : HO} (hn : F n = some (.frz od u)) : ∀ (d : D) (v : V), IsD F v d → IsD (offA F n) v d
  | .none, _, h => by cases h; exact .non
  | .bool b, _, h => by cases h; exact .bl b
  | .int i, _, h => by cases h; exact .int i
  | .str s, _, h => by cases h; exact .str s
  | .list ds, _, h => by
    cases h with
    | lst e a => exact .lst (by rw [offA_ne (fun z => by rw [z, hn] at e; cases e)]; exact e) (isds_off hn ds _ a)
  | .tuple ds, _, h => by
    cases h with
    | tup e a => exact .tup (by rw [offA_ne (fun z => by rw [z, hn] at e; cases e)]; exact e) (isds_off hn ds _ a)
  | .dict _, _, h => by cases h
theorem isds_off {F : Hp} {n : Addr} {od : Obj} {u : HO} (hn : F n = some (.frz od u)) : ∀ (ds : List D) (vs : List V), IsDs F vs ds → IsDs (offA F n) vs ds
  | [], _, h => by cases h; exact .nil
  | d :: ds, _, h => by
    cases h with
    | cons a b => exact .cons (isd_off hn d _ a) (isds_off hn ds _ b)
end
theorem KvOk.off {κ : Type} {F : Hp} {n : Addr} {od : Obj} {u : HO} (hn : F n = some (.frz od u)) : ∀ {l : List (κ × V)} {m : List (κ × D)}, KvOk F l m → KvOk (offA F n) l m
  | _, _, .nil => .nil
  | _, _, .cons r t => .cons ⟨r.1, isd_off hn _ _ r.2⟩ (KvOk.off hn t)
theorem CellOk.off {S : Sg} {H0 F H : Hp} {n : Addr} {od : Obj} {ks : List (Key × V)} {u : HO} {v : V} {c : Cell} (hn : F n = some (.frz od (.dK ks))) (h : CellOk S H0 F H v c) (h1 : ∀ kvs, c ≠ .lk n kvs) (h2 : ∀ kvs, c ≠ .lt n kvs) : CellOk S H0 (offA F n) (upd H n u) v c := by
  have ne : ∀ a, F a = none → a ≠ n := fun a e z => by rw [z, hn] at e; cases e
  cases c with
  | val d => exact isd_off hn d v h
  | st => exact h
  | ro ns =>
    obtain ⟨a, e, q⟩ := h
    refine ⟨a, e, fun H' x => ?_⟩
    have z := q (upd H' n (.frz od (.dK ks))) fun a' o' e' => by
      by_cases y : a' = n
      · subst y; rw [hn] at e'; cases e'; exact upd_same
      · rw [upd_ne y]; exact x a' o' (by rw [offA_ne y]; exact e')
    rcases z with z | z
    · refine .inl ?_
      by_cases y : a = n
      · subst y
        rcases z with z | ⟨o, z⟩
        · rw [upd_same] at z; cases z
        · rw [upd_same] at z; cases z
      · rcases z with z | ⟨o, z⟩
        · rw [upd_ne y] at z; exact .inl z
        · rw [upd_ne y] at z; exact .inr ⟨o, z⟩
    · exact .inr z
  | own ds =>
    obtain ⟨a, vs, ea, w, q, r⟩ := h
    have y := ne a w.nf
    exact ⟨a, vs, ea, ⟨(offA_ne y).trans w.nf, w.n0, w.ns⟩, (upd_ne y).trans q, isds_off hn _ _ r⟩
  | dk ds =>
    obtain ⟨a, vs, ea, w, q, r⟩ := h
    have y := ne a w.nf
    exact ⟨a, vs, ea, ⟨(offA_ne y).trans w.nf, w.n0, w.ns⟩, (upd_ne y).trans q, r.off hn⟩
  | dt ds =>
    obtain ⟨a, vs, ea, w, q, r⟩ := h
    have y := ne a w.nf
    exact ⟨a, vs, ea, ⟨(offA_ne y).trans w.nf, w.n0, w.ns⟩, (upd_ne y).trans q, r.off hn⟩
  | lk a ds =>
    obtain ⟨ea, o, vs, q, r⟩ := h
    have y : a ≠ n := fun z => h1 ds (by rw [z])
    exact ⟨ea, o, vs, (offA_ne y).trans q, r.off hn⟩
  | lt a ds =>
    obtain ⟨ea, o, vs, q, r⟩ := h
    have y : a ≠ n := fun z => h2 ds (by rw [z])
    exact ⟨ea, o, vs, (offA_ne y).trans q, r.off hn⟩
section
variable {S : Sg} {H0 : Ent} {δ : Env} {σ : Sl} {F H : Hp} {b : Nat} {n : Addr} {i : Nat} {od : Obj}
/-- the dict of the name i is locked -/
theorem Rel.lockK {kvs : List (Key × D)} {ks : List (Key × V)} (R : Rel S H0 δ σ F H b) (hd : δ[i]? = some (some (.dk kvs))) (e1 : σ[i]? = some (some (.ref n))) (hn : H n = some (.dK ks)) (hq : KvOk F ks kvs) :
    Rel S H0 (δ.set i (some (.lk n kvs))) σ (upd F n (.frz od (.dK ks))) (upd H n (.frz od (.dK ks))) b := by
  obtain ⟨w, _⟩ := R.ownAt hd rfl e1
  have hi : i < δ.length := (List.getElem?_eq_some_iff.mp hd).1
  have ex : Ex F (upd F n (.frz od (.dK ks))) := Ex.nw w.nf
  have ne : ∀ (j : Nat) (c : Cell) (a : Addr), j ≠ i → δ[j]? = some (some c) → c.isOwn = true → σ[j]? = some (some (.ref a)) → a ≠ n := fun j c a hj e2 o e3 z => by
    subst z
    exact R.sep j i c _ hj e2 hd o rfl (e3.trans e1.symm)
  refine ⟨by rw [List.length_set]; exact R.len, fun a o e => ?_, R.fr.over w.n0, fun a o e => ?_, ⟨fun q => ?_, fun q => ex _ _ (R.sto.nu q), fun q => ?_, R.sto.some_⟩, fun j c e => ?_, fun j l c c' hne e e' o o' => ?_⟩
  · by_cases z : a = n
    · subst z; rw [upd_same] at e ⊢; exact e
    · rw [upd_ne z] at e ⊢; exact R.sub a o e
  · by_cases z : a = n
    · exact .inr (by rw [z]; exact w.n0)
    · rw [upd_ne z] at e; exact R.nw a o e
  · rw [upd_ne (Ne.symm (w.ns q))]; exact R.sto.out q
  · obtain ⟨g, h1, h2, e⟩ := R.sto.at_ q
    exact ⟨g, h1, h2, by rw [upd_ne (Ne.symm (w.ns q))]; exact e⟩
  · by_cases z : i = j
    · subst z
      rw [List.getElem?_set_self hi] at e
      cases e
      exact ⟨_, e1, rfl, od, ks, upd_same, hq.mono ex⟩
    · rw [List.getElem?_set_ne z] at e
      obtain ⟨v, e2, k⟩ := R.cell j c e
      refine ⟨v, e2, k.go ex fun o a ea w' => ?_⟩
      subst ea
      have y := ne j c a (Ne.symm z) e o e2
      exact ⟨by rw [upd_ne y]; exact w'.nf, fun u hu => by rw [upd_ne y]; exact hu⟩
  · have own : ∀ (j : Nat) (c : Cell), (δ.set i (some (.lk n kvs)))[j]? = some (some c) → c.isOwn = true → δ[j]? = some (some c) := fun j c e o => by
      by_cases z : i = j
      · subst z
        rw [List.getElem?_set_self hi] at e
        cases e; cases o
      · rw [List.getElem?_set_ne z] at e; exact e
    exact R.sep j l c c' hne (own j c e o) (own l c' e' o') o o'
/-- .. and free again -/
theorem Rel.unlock0 {ks : List (Key × V)} {u : HO} (R : Rel S H0 δ σ F H b) (hn : F n = some (.frz od (.dK ks))) (h0 : H0.h n = none) : Rel S H0 (δ.map (unlkC n)) σ (offA F n) (upd H n u) b := by
  have ns : S.on = true → S.st ≠ n := fun q z => by
    have e := R.sto.out q
    rw [z, hn] at e; cases e
  have cells : ∀ (j : Nat) (c : Cell), (δ.map (unlkC n))[j]? = some (some c) → δ[j]? = some (some c) ∧ (∀ kvs, c ≠ .lk n kvs) ∧ (∀ kvs, c ≠ .lt n kvs) := fun j c e => by
    rw [List.getElem?_map] at e
    cases q : δ[j]? with
    | none => rw [q] at e; cases e
    | some x =>
      rw [q] at e
      obtain ⟨h1, h2, h3⟩ := unlkC_some (Option.some.inj e)
      exact ⟨by rw [h1], h2, h3⟩
  refine ⟨by rw [List.length_map]; exact R.len, fun a o e => ?_, R.fr.over h0, fun a o e => R.nw a o (offA_some e).2, ⟨fun q => (offA_ne (ns q)).trans (R.sto.out q), fun q => ?_, fun q => ?_, R.sto.some_⟩, fun j c e => ?_, fun j l c c' hne e e' => ?_⟩
  · obtain ⟨e1, e2⟩ := offA_some e
    rw [upd_ne e1]; exact R.sub a o e2
  · have e := R.sto.nu q
    rw [offA_ne (fun z => by rw [z, hn] at e; cases e)]; exact e
  · obtain ⟨g, h1, h2, e⟩ := R.sto.at_ q
    exact ⟨g, h1, h2, by rw [upd_ne (ns q)]; exact e⟩
  · obtain ⟨e1, h1, h2⟩ := cells j c e
    obtain ⟨v, e2, k⟩ := R.cell j c e1
    exact ⟨v, e2, k.off hn h1 h2⟩
  · exact R.sep j l c c' hne (cells j c e).1 (cells l c' e').1
theorem Rel.unlockK {kvs : List (Key × D)} {ks : List (Key × V)} (R : Rel S H0 δ σ F H b) (hn : F n = some (.frz od (.dK ks))) (h0 : H0.h n = none) (e : δ[i]? = some (some (.lk n kvs))) :
    Rel S H0 ((δ.map (unlkC n)).set i (some (.dk kvs))) σ (offA F n) (upd H n (.dK ks)) b := by
  have ns : S.on = true → n ≠ S.st := fun q z => by
    have e := R.sto.out q
    rw [← z, hn] at e; cases e
  have R' := Rel.unlock0 (u := .dK ks) R hn h0
  obtain ⟨v, e1, rfl, o, ks', q, r⟩ := R.cell i _ e
  rw [hn] at q
  cases q
  have hi : i < (δ.map (unlkC n)).length := by rw [List.length_map]; exact (List.getElem?_eq_some_iff.mp e).1
  have nown : ∀ (j : Nat) (c : Cell), (δ.map (unlkC n))[j]? = some (some c) → c.isOwn = true → σ[j]? ≠ some (some (.ref n)) := fun j c e2 o z => by
    rw [List.getElem?_map] at e2
    cases y : δ[j]? with
    | none => rw [y] at e2; cases e2
    | some x =>
      rw [y] at e2
      obtain ⟨h1, _, _⟩ := unlkC_some (Option.some.inj e2)
      subst h1
      have w := (R.ownAt y o z).1.nf
      rw [hn] at w; cases w
  refine ⟨by rw [List.length_set]; exact R'.len, R'.sub, R'.fr, R'.nw, R'.sto, fun j c e2 => ?_, fun j l c c' hne e2 e3 o2 o3 => ?_⟩
  · by_cases z : i = j
    · subst z
      rw [List.getElem?_set_self hi] at e2
      cases e2
      exact ⟨_, e1, n, ks, rfl, ⟨offA_same, h0, ns⟩, upd_same, r.off hn⟩
    · rw [List.getElem?_set_ne z] at e2
      exact R'.cell j c e2
  · by_cases z : i = j
    · subst z
      rw [List.getElem?_set_ne hne] at e3
      rw [e1]
      exact fun y => nown l c' e3 o3 y.symm
    · rw [List.getElem?_set_ne z] at e2
      by_cases z2 : i = l
      · subst z2
        rw [e1]
        exact nown j c e2 o2
      · rw [List.getElem?_set_ne z2] at e3
        exact R'.sep j l c c' hne e2 e3 o2 o3
end
/-- the statement runs while the dict of the name i is locked -/
def slock (i : Nat) (s : SW) : SW := fun δ b R => match δ[i]? with
  | some (some (.dk kvs)) => ∀ a, s (δ.set i (some (.lk a kvs))) b fun o b' => match o with
    | .nx δ' => δ'[i]? = some (some (.lk a kvs)) ∧ R (.nx ((δ'.map (unlkC a)).set i (some (.dk kvs)))) b'
    | .rt d => R (.rt d) b'
    | .er e => R (.er e) b'
    | .bk _ => False
    | .ct _ => False
  | _ => False
/-- .. the expression -/
def wlock {α : Type} (i : Nat) (f : Env → Wp α) : Env → Wp α := fun δ b R => match δ[i]? with
  | some (some (.dk kvs)) => ∀ a, f (δ.set i (some (.lk a kvs))) b fun r b' => match r with
    | .ok x => R (.ok x) b'
    | .error _ => False
  | _ => False
theorem lk_back {S : Sg} {H0 : Ent} {δ : Env} {σ : Sl} {F H : Hp} {b : Nat} {n : Addr} {i : Nat} {kvs kvs' : List (Key × D)} (R : Rel S H0 δ σ F H b) (h0 : H n = none ∨ ∃ ks, H n = some (.dK ks)) (hd : δ[i]? = some (some (.dk kvs))) :
    ((δ.set i (some (.lk n kvs'))).map (unlkC n)).set i (some (.dk kvs)) = δ := by
  have hi : i < δ.length := (List.getElem?_eq_some_iff.mp hd).1
  refine List.ext_getElem? fun j => ?_
  by_cases z : i = j
  · subst z
    rw [List.getElem?_set_self (by simpa using hi), hd]
  · rw [List.getElem?_set_ne z, List.getElem?_map, List.getElem?_set_ne z]
    cases q : δ[j]? with
    | none => rfl
    | some x =>
      show some (unlkC n x) = some x
      congr 1
      cases x with
      | none => rfl
      | some c =>
        cases c with
        | lk a l =>
          obtain ⟨v, _, _, o, ks, e, _⟩ := R.cell j _ q
          have ne : a ≠ n := fun z => by
            have e2 := R.sub _ _ e
            rw [z] at e2
            rcases h0 with h | ⟨_, h⟩ <;> rw [h] at e2 <;> cases e2
          show (if a = n then none else some (Cell.lk a l)) = _
          rw [if_neg ne]
        | lt a l =>
          obtain ⟨v, _, _, o, ks, e, _⟩ := R.cell j _ q
          have ne : a ≠ n := fun z => by
            have e2 := R.sub _ _ e
            rw [z] at e2
            rcases h0 with h | ⟨_, h⟩ <;> rw [h] at e2 <;> cases e2
          show (if a = n then none else some (Cell.lt a l)) = _
          rw [if_neg ne]
        | _ => rfl
section
variable {X : Cx} {S : Sg} {W : WX} {k : Nat} {st : Stmt} {e a : Expr} {i : Nat}
theorem sx_lock {f : SW} (h : SX X S W st f) : SX X S W st (slock i f) := by
  obtain ⟨t, p, q⟩ := h
  refine ⟨_, ps_lock p, fun H0 δ σ F H b R D' rel hf P => ?_⟩
  unfold slock at hf
  split at hf
  · rename_i kvs hd
    obtain ⟨v, e1, n, ks, rfl, w, hn, hq⟩ := rel.cell i _ hd
    refine ⟨n, .dK ks, hn, trivial, fun od => ?_⟩
    have rel1 := Rel.lockK (od := od) rel hd e1 hn hq
    have ex : Ex F (upd F n (.frz od (.dK ks))) := Ex.nw w.nf
    have fn : ∀ {F' : Hp}, Ex (upd F n (.frz od (.dK ks))) F' → F' n = some (.frz od (.dK ks)) := fun x => x n _ upd_same
    have exo : ∀ {F' : Hp}, Ex (upd F n (.frz od (.dK ks))) F' → Ex F (offA F' n) := fun {F'} x a o e => by
      have ne : a ≠ n := fun z => by rw [z, w.nf] at e; cases e
      rw [offA_ne ne]; exact x a o (ex a o e)
    refine q H0 _ σ _ _ b _ _ rel1 (hf n) ⟨fun δ' b' r σ' F' H' R' x => ?_, fun d b' r v δ' σ' F' H' R' x hv => ?_, fun δ' b' r => r.elim, fun δ' b' r => r.elim, fun e b' r δ' σ' F' H' R' x => ?_⟩
    · exact ⟨R'.sub _ _ (fn x), P.nx _ b' r.2 σ' _ _ (R'.unlockK (fn x) w.n0 r.1) (exo x)⟩
    · exact ⟨R'.sub _ _ (fn x), P.rt d b' r v _ σ' _ _ (R'.unlock0 (fn x) w.n0) (exo x) (isd_off (fn x) _ _ hv)⟩
    · refine P.er e b' r (List.replicate σ'.length none) σ' F' H' (R'.less (by simp) fun i c e => ?_) (ex.tr x)
      rw [List.getElem?_replicate] at e
      split at e <;> cases e
  · exact hf.elim
theorem dg_lock {α : Type} {Ok : Hp → Hp → Hp → V → α → Prop} {t : TE} {f : Env → Wp α} (h : DG S W Ok t f)
    (ok : ∀ (F H F' H' : Hp) (n : Addr) (od : Obj) (ks : List (Key × V)) (v : V) (x : α), H n = some (.dK ks) → F' n = some (.frz od (.dK ks)) → Ok (upd H n (.frz od (.dK ks))) F' H' v x → Ok H (offA F' n) (upd H' n (.dK ks)) v x) : DG S W Ok (tLockE t) (wlock i f) := by
  intro H0 δ σ F H b R Q rel hf P
  unfold wlock at hf
  split at hf
  · rename_i kvs hd
    obtain ⟨v, e1, n, ks, rfl, w, hn, hq⟩ := rel.cell i _ hd
    refine ⟨n, .dK ks, hn, trivial, fun od => ?_⟩
    have rel1 := Rel.lockK (od := od) rel hd e1 hn hq
    have ex : Ex F (upd F n (.frz od (.dK ks))) := Ex.nw w.nf
    have hi : i < δ.length := (List.getElem?_eq_some_iff.mp hd).1
    refine h H0 _ σ _ _ b _ _ rel1 (hf n) ⟨fun x b' r y F' H' R' x1 g o => ?_, fun e b' r => r.elim⟩
    have fn : F' n = some (.frz od (.dK ks)) := x1 n _ upd_same
    refine ⟨R'.sub _ _ fn, ?_⟩
    have R2 := R'.unlockK (i := i) (kvs := kvs) fn w.n0 (by rw [List.getElem?_set_self hi])
    rw [lk_back rel (.inr ⟨_, hn⟩) hd] at R2
    refine P.ok x b' r y _ _ R2 (fun a o e => ?_) ⟨fun a o e ns => ?_, fun a o e => ?_⟩ (ok F H F' H' n od ks y x hn fn o)
    · have ne : a ≠ n := fun z => by rw [z, w.nf] at e; cases e
      rw [offA_ne ne]; exact x1 a o (ex a o e)
    · by_cases z : a = n
      · subst z; rw [hn] at e; cases e; exact upd_same
      · rw [upd_ne z]; exact g.fr a o (by rw [upd_ne z]; exact e) ns
    · obtain ⟨ne, e2⟩ := offA_some e
      rcases g.nw a o e2 with z | z
      · rw [upd_ne ne] at z; exact .inl z
      · rw [upd_ne ne] at z; exact .inr z
  · exact hf.elim
theorem ex_lock {f : Env → Wp D} (h : EX X S W e f) : EX X S W e (wlock i f) := by
  obtain ⟨t, p, q⟩ := h
  exact ⟨_, pe_lock p, dg_lock q fun F H F' H' n od ks v x h1 h2 o => isd_off h2 _ _ o⟩
theorem ef_lock {f : Env → Wp (List D)} (h : EF X S W e f) : EF X S W e (wlock i f) := by
  obtain ⟨t, p, q⟩ := h
  refine ⟨_, pe_lock p, dg_lock q fun F H F' H' n od ks v x h1 h2 o => ?_⟩
  obtain ⟨p, vs, rfl, z1, z2, z3, z4⟩ := o
  have ne : p ≠ n := fun z => by rw [z, h2] at z3; cases z3
  exact ⟨p, vs, rfl, by rw [upd_ne ne] at z1; exact z1, (upd_ne ne).trans z2, (offA_ne ne).trans z3, isds_off h2 _ _ z4⟩
/-- the keys of a locked dict -/
def wkeysL (i : Nat) : Env → Wp (List D) := fun δ b R => match δ[i]? with
  | some (some (.lk _ kvs)) => R (.ok (kvs.map fun p => keyD p.1)) b
  | _ => False
theorem isd_key {F : Hp} (k : Key) : IsD F (kV k) (keyD k) := by
  cases k with
  | inl i => exact .int i
  | inr x => exact .str x
theorem ix_lk {o tg : Expr} {fr : Bool} (ho : PE X o (tVar i)) : IX X S W fr tg o (wkeysL i) := by
  refine ⟨_, pi_keys ho, fun H0 δ σ F H b R Q rel hf P => ?_⟩
  unfold wkeysL at hf
  split at hf
  · rename_i n kvs hd
    obtain ⟨v, e1, rfl, od, ks, hn, hq⟩ := rel.cell i _ hd
    have hl : ks.length = kvs.length := Paired.length hq
    refine ⟨_, e1, n, od, rfl, .inl ⟨ks, rel.sub _ _ hn, P.now rel hf fun F2 H2 x1 x2 _ => ⟨fun j d e => ?_, ?_⟩⟩⟩
    · have h2 := x2 _ _ (x1 _ _ hn)
      rw [List.getElem?_map] at e
      have hj : j < kvs.length := by
        by_cases c : j < kvs.length
        · exact c
        · rw [List.getElem?_eq_none (by omega)] at e; cases e
      refine ⟨⟨h2, by omega⟩, fun x H3 y => ?_⟩
      obtain ⟨rfl, kk, vv, e2, rfl⟩ := y
      refine ⟨F2, .inl ⟨rfl, rfl⟩, ?_⟩
      have hk := kv_keys hq
      have e3 : (ks.map (·.1))[j]? = some kk := by rw [List.getElem?_map, e2]; rfl
      rw [hk, List.getElem?_map] at e3
      cases q : kvs[j]? with
      | none => rw [q] at e; cases e
      | some z =>
        rw [q] at e e3
        cases e
        cases e3
        exact isd_key _
    · refine ⟨x2 _ _ (x1 _ _ hn), ?_⟩
      rw [List.length_map, hl]; exact Nat.le_refl _
  · exact hf.elim
/-- x in d, x not in d, d locked -/
def wdinL (neg : Bool) (i : Nat) (fa : Env → Wp D) : Env → Wp Bool := fun δ => wbind (fa δ) fun y b R => match δ[i]? with
  | some (some (.lk _ kvs)) => ∃ key, y = keyD key ∧ R (.ok (if neg = true then !(getD' kvs key).isSome else (getD' kvs key).isSome)) b
  | _ => False
theorem bx_dinL {o : Expr} {pos : Pos} {fa : Env → Wp D} (G : Cxt X S W k) (ha : EX X S W a fa) (ho : PE X o (tVar i)) (h1 : behindInMarks .In o = false := by first | exact nobehind _ (by decide) (by decide) | rfl) : BX X S W (.Compare a [.In] [o] pos) (wdinL false i fa) := by
  obtain ⟨ta, pa, qa⟩ := ha
  refine ⟨_, pt_cmp (pc_din (by have := G.hu65; omega) pa ho) h1, fun H0 δ σ F H b R Q rel hf P => ?_⟩
  refine qa H0 δ σ F H b _ _ rel hf ⟨fun y b1 r u F1 H1 q1 x1 g1 o1 => ?_, fun er b1 r F1 H1 q1 x1 g1 => P.er er b1 r F1 H1 q1 x1 g1⟩
  dsimp only at r
  split at r
  · rename_i n kvs hd0
    obtain ⟨key, rfl, r⟩ := r
    obtain ⟨w1, e1, rfl, od, ks, hn, hq⟩ := q1.cell i _ hd0
    refine ⟨_, e1, n, _, rfl, by rw [kv_key o1]; exact .inl ⟨ks, key, .inr ⟨od, q1.sub _ _ hn⟩, rfl, rfl⟩, _, rfl, ?_⟩
    rw [(kv_get (k := key) hq).1]
    exact P.ok _ b1 r _ F1 H1 q1 x1 g1 rfl
  · exact r.elim
theorem bx_dnotinL {o : Expr} {pos : Pos} {fa : Env → Wp D} (G : Cxt X S W k) (ha : EX X S W a fa) (ho : PE X o (tVar i)) (h1 : behindInMarks .NotIn o = false := by first | exact nobehind _ (by decide) (by decide) | rfl) : BX X S W (.Compare a [.NotIn] [o] pos) (wdinL true i fa) := by
  obtain ⟨ta, pa, qa⟩ := ha
  refine ⟨_, pt_cmp (pc_dnotin (by have := G.hu65; omega) pa ho) h1, fun H0 δ σ F H b R Q rel hf P => ?_⟩
  refine qa H0 δ σ F H b _ _ rel hf ⟨fun y b1 r u F1 H1 q1 x1 g1 o1 => ?_, fun er b1 r F1 H1 q1 x1 g1 => P.er er b1 r F1 H1 q1 x1 g1⟩
  dsimp only at r
  split at r
  · rename_i n kvs hd0
    obtain ⟨key, rfl, r⟩ := r
    obtain ⟨w1, e1, rfl, od, ks, hn, hq⟩ := q1.cell i _ hd0
    refine ⟨_, e1, n, _, rfl, by rw [kv_key o1]; exact .inl ⟨ks, key, .inr ⟨od, q1.sub _ _ hn⟩, rfl, rfl⟩, _, rfl, ?_⟩
    rw [(kv_get (k := key) hq).1]
    exact P.ok _ b1 r _ F1 H1 q1 x1 g1 rfl
  · exact r.elim
end
end BB
set_option Elab.async false
set_option linter.all false
set_option maxRecDepth 100000
set_option autoImplicit false
set_option maxHeartbeats 2000000
/-! Bb35: sorted(x, reverse=True) of numbers, x.index(y), x[i], x[j] = a, b. -/
namespace SrtR
open PySem PyProof.Rows Srt SrtO
section
variable {prog : Program} {w : World} {A : Around} {E : Value → Shared → Prop} {s : Shared}
theorem collect_tup {l : Addr} {vs : List Value} {Q : List Value → Shared → Prop} (hl : IsTup s.heap l vs.toArray)
    (h : Q vs { s with heap := (s.heap.push (seqObj "list" #[] 0)).update s.heap.objs.size (Obj.mapSeq (· ++ vs.toArray)) }) (hsz : vs.length ≤ sizeLine := by size_fits) :
    wpAny (model prog w) A (collect (.ref l)) Q E s := by
  obtain ⟨o, ho, hc, n, hd⟩ := id hl
  unfold collect
  refine wpAny_bind (wpAny_runValue (codeAny_builtin entry_proto_collect' ?_))
  show wpAny _ _ (do again (.builtin "list.__iadd__" ⟨[← newList [], .ref l], []⟩)) _ _ s
  refine wpAny_bind (wpAny_newList (wpAny_pure ⟨Code.quiet_builtin _ (by decide +kernel), codeAny_builtin entry_list_iadd' ?_⟩))
  show wpAny _ _ (Builtin.List.listExtendWith (.ref s.heap.objs.size) (.ref l) (.ref s.heap.objs.size)) _ _ { s with heap := s.heap.push (seqObj "list" #[] 0) }
  unfold Builtin.List.listExtendWith
  have ho' : (s.heap.push (seqObj "list" #[] 0)).get? l = some o := Heap.get?_push_of_some _ ho
  refine wpAny_bind (wpAny_typeOf (T := "tuple") ⟨o, ho', hc⟩ ?_)
  have ht : (Value.type "tuple" == Value.type "tuple") = true := by rfl
  rw [if_pos (by rw [ht]; simp)]
  refine wpAny_bind (listItems_at ho' hd ?_)
  refine wpAny_bind (listItems_at (xs := #[]) (n := 0) (Heap.get?_push_size _ rfl) rfl ?_)
  rw [if_neg (by simp)]
  refine wpAny_bind (listUpdate_at (xs := #[]) (n := 0) (Heap.get?_push_size _ rfl) rfl ?_ (Nat.zero_le _) (by show (#[] ++ vs.toArray).size ≤ sizeLine + 1; simp only [Array.size_append, List.size_toArray, List.length_nil]; omega))
  refine wpAny_pure ?_
  show wpAny (model prog w) A (do
      let o ← load s.heap.objs.size
      match o.data with
      | .seq xs _ => pure xs.toList
      | _ => unsupported "internal:collect") Q E { s with heap := (s.heap.push (seqObj "list" #[] 0)).update s.heap.objs.size (Obj.mapSeq (· ++ vs.toArray)) }
  refine wpAny_bind (wpAny_load (get?_update_seq (Heap.get?_push_size _ rfl) _) ?_)
  show wpAny _ _ (pure ((#[] : Array Value) ++ vs.toArray).toList) Q E _
  rw [show ((#[] : Array Value) ++ vs.toArray).toList = vs by simp]
  exact wpAny_pure h
theorem sorted_ordKT {l : Addr} {vs : List Value} {b : Bool} {kw : List (Str × Value)} {ltv : Value → Value → Bool} {Q : Value → Shared → Prop} (hk : ∀ a, Builtin.«list.sort» ⟨[.ref a], kw⟩ = Builtin.«list.sort» ⟨[.ref a], [(Str.ofString "reverse", .bool b)]⟩)
    (ha1 : argsOk "sorted" ⟨[.ref l], kw⟩) (ha2 : ∀ a, argsOk "list.sort" ⟨[a], kw⟩) (O : Swo ltv) (hl : IsTup s.heap l vs.toArray) (hz : vs.length ≤ sizeLine)
    (hS : 2 ≤ vs.length → ∀ (h₁ : Heap) (a : Addr), h₁.get? a = some (seqObj "list" vs.toArray 0) → (∀ b o, s.heap.get? b = some o → b ≠ a ∧ h₁.get? b = some o) → SortableO prog w A.in1.in1 { s with heap := h₁ } a vs ltv)
    (h : ∀ out : List Value, Srtd ltv out → Stb ltv out (if b = true then vs.reverse else vs) → Q (.ref (s.heap.objs.size + 1)) { s with heap := sortedAll s.heap vs (if b = true then out.toArray.reverse else out.toArray) }) :
    wpAny (model prog w) A (call (.builtin "sorted") [.ref l] kw) Q E s := by
  refine call_function_entry_kw kind_sorted plain_sorted entry_sorted ha1 ?_
  unfold Builtin.«sorted»
  refine wpAny_bind (m := checkCount "sorted" 1 1 _) (wpAny_pure ?_)
  refine wpAny_bind (collect_tup hl ?_ hz)
  refine wpAny_bind (wpAny_newList ?_ hz)
  have hsz : ((s.heap.push (seqObj "list" #[] 0)).update s.heap.objs.size (Obj.mapSeq (· ++ vs.toArray))).objs.size = s.heap.objs.size + 1 := by
    rw [Heap.size_update, size_push']
  have hoL : (((s.heap.push (seqObj "list" #[] 0)).update s.heap.objs.size (Obj.mapSeq (· ++ vs.toArray))).push (seqObj "list" vs.toArray 0)).get? (s.heap.objs.size + 1) = some (seqObj "list" vs.toArray 0) := by
    rw [← hsz]; exact Heap.get?_push_size _ rfl
  have keep : ∀ b o, s.heap.get? b = some o → b ≠ s.heap.objs.size + 1 ∧ (((s.heap.push (seqObj "list" #[] 0)).update s.heap.objs.size (Obj.mapSeq (· ++ vs.toArray))).push (seqObj "list" vs.toArray 0)).get? b = some o := fun b o q => by
    have hlt : b < s.heap.objs.size := Heap.lt_size q
    refine ⟨Nat.ne_of_lt (Nat.lt_succ_of_lt hlt), Heap.get?_push_of_some _ ?_⟩
    rw [Heap.get?_update_ne _ _ _ _ (Nat.ne_of_lt hlt)]
    exact Heap.get?_push_of_some _ q
  show wpAny _ _ _ _ _ { s with heap := ((s.heap.push (seqObj "list" #[] 0)).update s.heap.objs.size (Obj.mapSeq (· ++ vs.toArray))).push (seqObj "list" vs.toArray 0) }
  rw [hsz]
  refine wpAny_bind (wpAny_holding (wpAny_call_entry_kw slot_list_sort ⟨_, hoL, rfl⟩ entry_list_sort ?_ (ha2 _)))
  rw [hk]
  refine list_sort_ordR O hoL hz (fun h2 => hS h2 _ _ hoL keep) fun out hs hb => ⟨_, rfl, ?_⟩
  exact wpAny_pure ⟨_, rfl, h out hs hb⟩
end
end SrtR
namespace BB
open PySem PySem.Spec PyProof.Rows L2 HotX L2H
def rSortedRev (K : PySem.W.Frag) : List V → List V → Hp → VK → Prop := fun vs zs H Q => ∃ (a : Addr) (ns : List Int), vs = [V.ref a] ∧ zs = [.bl true] ∧ (SqL K H a (ns.map V.int) ∨ SqT K H a (ns.map V.int)) ∧
  ∀ (ns' : List Int) (p : Addr), ns'.Perm ns → ns'.Pairwise (· ≥ ·) → H p = none → Q (.ref p) (upd H p (.lst (ns'.map V.int)))
section
variable {X : Cx} {S : Sg} {W : WX} {k : Nat} {a b e o : Expr} {p pos apos cpos : Pos}
theorem cr_sortedRevT : CallRK X (.builtin "sorted") [Str.ofString "reverse"] (rSortedRev X.K) := by
  intro pins s σ H vs zs us ws Q I r rz h
  obtain ⟨a, ns, rfl, rfl, hs, q⟩ := h
  rcases hs with hs | hs
  · exact cr_sortedRev (b := true) pins s σ H _ _ us ws Q I r rz ⟨a, ns, rfl, rfl, hs, fun ns' p h1 h2 h3 => q ns' p h1 h2 h3⟩
  · obtain rfl := Vals.ref1 r
    obtain ⟨w1, rfl, e1⟩ := vals1 rz
    obtain rfl : w1 = Value.bool true := e1
    obtain ⟨its, rv, hl, hz⟩ := I.tuple hs
    have hi := rv.ints
    refine SrtR.sorted_ordKT (b := true) (fun _ => rfl) (PyProof.Rows.args_sorted_rev _ _) (fun _ => PyProof.Rows.args_list_sort_rev _ _) SrtO.swo_int hl (by rw [← rv.length]; exact hz) (fun h2 h₁ a' _ _ => SrtO.ints_sortable hi h2) fun out h1 h2 => ?_
    obtain ⟨ns', k1, k2, k3⟩ := SrtR.ints_outR hi h1 h2
    obtain ⟨ep, he'⟩ := PyProof.Rows.sortedAll_at s.heap its (if true = true then out.toArray.reverse else out.toArray)
    have hlen : (ns'.map V.int).length ≤ sizeLine := by
      rw [List.length_map, k2.length_eq]
      rw [List.length_map] at hz
      exact hz
    have e0 : ((if true = true then out.toArray.reverse else out.toArray).toList).toArray = (if true = true then out.toArray.reverse else out.toArray) := by rw [Array.toArray_toList]
    exact ⟨.ref _, upd H (s.heap.objs.size + 1) (.lst (ns'.map V.int)), I.laid (t' := s.toks) (fun _ _ => PyProof.Rows.sortedAll_old) (Nat.le_succ _) ⟨hlen, _, ep, vals_of_ints k1, by rw [e0]; exact he'⟩, rfl, q _ _ k2 k3 (I.hok.fresh (Nat.le_succ _))⟩
/-- sorted(x, reverse=True) -/
def kSortedRev : D → Wp (List D) := fun x b R => ∃ ns : List Int, (x = .list (ns.map PyData.int) ∨ x = .tuple (ns.map PyData.int)) ∧ ∀ ns' : List Int, ns'.Perm ns → ns'.Pairwise (· ≥ ·) → R (.ok (ns'.map PyData.int)) b
theorem ef_sortedRev {j : Nat} {kp rp : Pos} {fa : Env → Wp D} (hm : X.mg "sorted" = none) (ha : ET X S W a fa) (hg : Gl X "sorted" := by rfl)
    (hs : starEach [a] X.env = (false, eval a X.env) :: starEach [] X.env := by rfl)
    (he : backTo pos (starEach [a] X.env) = (false, eval a X.env) :: backTo pos (starEach [] X.env) := by rfl) (hpl : (backTo pos (starEach [a] X.env)).any (·.1) = false := by rfl)
    (hall : (backToKw pos (keywordEach [⟨some "reverse", .Constant (.bool true) j rp, kp⟩] X.env)).all (·.1.isSome) = true := by rfl) (hnone : (backToKw pos (keywordEach [⟨some "reverse", .Constant (.bool true) j rp, kp⟩] X.env)).any (·.1.isNone) = false := by rfl) (hks : (backToKw pos (keywordEach [⟨some "reverse", .Constant (.bool true) j rp, kp⟩] X.env)).filterMap (·.1) = [Str.ofString "reverse"] := by rfl) :
    EF X S W (.Call (.Name "sorted" p) [a] [⟨some "reverse", .Constant (.bool true) j rp, kp⟩] pos) (wk kSortedRev fa) := by
  obtain ⟨t, pa, q⟩ := ha
  refine ⟨_, pe_callBK cr_sortedRevT hg hm (by decide +kernel) (pa_cons pa pa_nil hs) (pk_cons pe_bl pk_nil) (by decide) (by decide) he hpl hall hnone hks, dg_b1 (r := fun v H Q => rSortedRev X.K [v] [.bl true] H Q) back_F (fun H0 δ σ F H b R Q v x rel hx hf P => ?_) q⟩
  obtain ⟨ns, hx2, hf⟩ := hf
  rcases hx2 with rfl | rfl
  · obtain ⟨l, vs, rfl, h1, r1⟩ := hx.lst rel.sub
    have e := r1.toInts
    subst e
    exact ⟨l, ns, rfl, rfl, .inl (SqL.of h1), fun ns' n h2 h3 hn => P.ok _ _ (hf ns' h2 h3) _ _ _ (rel.tmp hn) Ex.rfl' (Go.tmp hn) ⟨n, _, rfl, hn, upd_same, rel.sub.free hn, IsDs.ints _⟩⟩
  · obtain ⟨l, vs, rfl, h1, r1⟩ := hx.tup
    have e := r1.toInts
    subst e
    exact ⟨l, ns, rfl, rfl, .inr (SqT.of (rel.sub _ _ h1)), fun ns' n h2 h3 hn => P.ok _ _ (hf ns' h2 h3) _ _ _ (rel.tmp hn) Ex.rfl' (Go.tmp hn) ⟨n, _, rfl, hn, upd_same, rel.sub.free hn, IsDs.ints _⟩⟩
/-- x.index(y), numbers -/
def kIx2 (ds : List D) : D → Wp D := fun y b R => match y with
  | .int n => ∃ (ns : List Int) (j : Nat), ds = ns.map PyData.int ∧ ns[j]? = some n ∧ (∀ m z, m < j → ns[m]? = some z → z ≠ n) ∧ R (.ok (.int (j : Int))) b
  | _ => False
def kIx1 (fa : Env → Wp D) (δ : Env) : D → Wp D := fun x b R => match x with
  | .list ds => wbind (fa δ) (kIx2 ds) b R
  | _ => False
def windex (fo fa : Env → Wp D) : Env → Wp D := fun δ => wbind (fo δ) (kIx1 fa δ)
theorem flat_intsV (ns : List Int) : (ns.map V.int).all flatV = true := by
  rw [List.all_map, List.all_eq_true]
  exact fun _ _ => rfl
theorem ex_index {fo fa : Env → Wp D} (ho : ET X S W o fo) (ha : EX X S W a fa)
    (hbase : attributeBase o "index" X.env (eval o X.env) = eval o X.env := by rfl)
    (hfew : ((backTo cpos (starEach [a] X.env)).all (fun x => !x.1) && (backToKw cpos (keywordEach [] X.env)).all (fun x => x.1.isSome) && decide ([a].length + ([] : List Keyword).length + (if ([] : List Keyword).isEmpty then 0 else 1) < 30)) = true := by rfl)
    (hline : (apos.endLine == cpos.line) = true := by rfl) (hs : starEach [a] X.env = (false, eval a X.env) :: starEach [] X.env := by rfl) (hplain : (backTo cpos (starEach [] X.env)).any (·.1) = false := by rfl) :
    EX X S W (.Call (.Attribute o "index" apos) [a] [] cpos) (windex fo fa) := by
  obtain ⟨t, p, q⟩ := ho
  obtain ⟨u, p', q'⟩ := ha
  refine ⟨_, pe_bm PySem.F.plainAttrs_list PySem.F.slot_list_index PySem.F.type_list_index mt_index p (pa_cons p' pa_nil hs) hbase hfew hline hs hplain, fun H0 δ σ F H b R Q rel hf P => ?_⟩
  refine q H0 δ σ F H b _ _ rel hf ⟨fun x b1 r1 v F1 H1 rel1 x1 g1 o1 => ?_, P.er⟩
  have P1 := P.at_ back_V rel1 x1 g1
  dsimp only at r1
  unfold kIx1 at r1
  split at r1
  case h_2 => exact r1.elim
  rename_i ds
  have o1' : TV S F1 H1 v (.list ds) := o1
  obtain ⟨a1, vs, rfl, h1, h2⟩ := o1'.lst rel1.sub
  refine ⟨.inl ⟨rfl, _, SqL.of h1⟩, ?_⟩
  refine q' H0 δ σ F1 H1 b1 _ _ rel1 r1 ⟨fun y b2 r2 w F2 H2 rel2 x2 g2 o2 => ?_, P1.er⟩
  have P2 := P1.at_ back_V rel2 x2 g2
  have o3 : TV S F2 H2 (.ref a1) (.list ds) := fwd_T H F1 H1 F2 H2 (.ref a1) (.list ds) x2 g2.fr o1
  obtain ⟨a3, vs3, e3, h3, h4⟩ := o3.lst rel2.sub
  cases e3
  cases y with
  | int n =>
    cases o2
    obtain ⟨ns, j, e, hj, hno, hr⟩ := r2
    subst e
    have e4 := h4.toInts
    subst e4
    refine ⟨a1, _, .int n, j, .int n, rfl, rfl, SqL.of h3, rfl, flat_intsV ns, by rw [List.getElem?_map, hj]; rfl, by simp [eqV], fun m z' lt hz => ?_, P2.now rel2 hr (.int _)⟩
    rw [List.getElem?_map] at hz
    cases q5 : ns[m]? with
    | none => rw [q5] at hz; cases hz
    | some z =>
      rw [q5] at hz
      cases hz
      have := hno m z lt q5
      simp [eqV, this]
  | _ => exact r2.elim
/-! len(set(x)), a tuple -/
def rLenSetT (K : PySem.W.Frag) (x : V) (H1 : Hp) (Q : VK) : Prop := ∃ (l : Addr) (ns : List Int), x = .ref l ∧ SqT K H1 l (ns.map V.int) ∧ ns.length < 1000 ∧
  ∀ ys : List Int, ys.Nodup → (∀ k, k ∈ ys ↔ k ∈ ns) → Q (.int ys.length) H1
def tLenSetT (K : PySem.W.Frag) (ta : TE) : TE := fun σ H Q => ta σ H fun x H1 => rLenSetT K x H1 Q
theorem pe_lenSetT {ta : TE} {p2 q : Pos} (hc : X.calm = true) (hg : Gl X "len") (hm : X.mg "len" = none) (hg2 : Gl X "set") (hm2 : X.mg "set" = none) (ha : PE X a ta) (na : starEach [a] X.env = (false, eval a X.env) :: starEach [] X.env := by rfl) : PE X (.Call (.Name "len" p) [.Call (.Name "set" p2) [a] [] q] [] pos) (tLenSetT X.K ta) := by
  refine ⟨fun pins s σ H Q I h => ?_⟩
  refine Call_ (ld_blt I hg hm boot_len ?_)
  refine callWith_builtin1 (args_cons ?_ rfl) rfl rfl
  refine Call_ (ld_blt I hg2 hm2 boot_set ?_)
  refine callWith_type1 (args_cons (thn (ha.run pins s σ H _ I h) fun v s1 ⟨x, H1, I1, r1, q1⟩ => args_nil ?_) na) na rfl
  obtain ⟨l, ns, rfl, hq, few, q1⟩ := q1
  cases r1
  obtain ⟨its, r, pl, hz⟩ := I1.tuple hq
  refine setT_call ns (I1.ok.hd hc) pl (ints_of_vals r) (by unfold scanBound; omega) fun h2 tk c R lc kp => args_nil ?_
  have I2 : Inv X pins σ H1 { s1 with heap := h2, toks := tk } := I1.kept fun b o e => kp b o e
  obtain ⟨o, es, ep, t, ho, hex, hd, gd, nd, hm3, hb3, hf3, hn3, _⟩ := R
  refine call_len_set ho hex hd hf3 (by omega) ⟨.int es.size, H1, I2.tok _, ⟨_, rfl⟩, ?_⟩
  have z := q1 (es.toList.map keyOf) nd fun k => by rw [← hm3 k, decide_eq_true_eq]
  rw [List.length_map, Array.length_toList] at z
  exact z
def kLenSetT : D → Wp D := fun x b R => ∃ ns : List Int, x = .tuple (ns.map PyData.int) ∧ ns.length < 1000 ∧ ∀ ys : List Int, ys.Nodup → (∀ k, k ∈ ys ↔ k ∈ ns) → R (.ok (.int ys.length)) b
theorem ex_lenSetT {p2 q : Pos} {fa : Env → Wp D} (G : Cxt X S W k) (hm : X.mg "len" = none) (hm2 : X.mg "set" = none) (ha : ET X S W a fa) (hg : Gl X "len" := by rfl) (hg2 : Gl X "set" := by rfl) (na : starEach [a] X.env = (false, eval a X.env) :: starEach [] X.env := by rfl) :
    EX X S W (.Call (.Name "len" p) [.Call (.Name "set" p2) [a] [] q] [] pos) (wk kLenSetT fa) := by
  obtain ⟨ta, pa, qa⟩ := ha
  refine ⟨_, pe_lenSetT G.calm hg hm hg2 hm2 pa na, ?_⟩
  refine dg_b1 (r := rLenSetT X.K) back_V (fun H0 δ σ F H b R Q v x rel hx hf P => ?_) qa
  obtain ⟨ns, rfl, hz, hf⟩ := hf
  obtain ⟨l, vs, rfl, h1, r1⟩ := hx.tup
  have e := r1.toInts
  subst e
  exact ⟨l, ns, rfl, SqT.of (rel.sub _ _ h1), hz, fun ys h2 h3 => P.now rel (hf ys h2 h3) (.int _)⟩
/-- x[i], x[j] = a, b -/
def sset2 (i : Nat) (f : Env → Wp (List D)) (fj fk : Env → Wp D) : SW := slift (wtup f) fun t δ b R => match t, δ[i]? with
  | .tuple [d, e], some (some (.own ds)) => fj δ b fun r b1 => match r with
    | .error er => R (.er er) b1
    | .ok (.int j) => ∃ m, ixN ds.length j = some m ∧ fk (δ.set i (some (.own (ds.set m d)))) b1 fun r b2 => match r with
      | .error er => R (.er er) b2
      | .ok (.int k) => ∃ n, ixN ds.length k = some n ∧ R (.nx (δ.set i (some (.own ((ds.set m d).set n e))))) b2
      | .ok _ => False
    | .ok _ => False
  | _, _ => False
theorem sx_set2 {i : Nat} {o1 o2 i1 i2 : Expr} {s1 s2 pt pt2 : Pos} {kt k2} {f : Env → Wp (List D)} {fj fk : Env → Wp D} (G : Cxt X S W k) (ho1 : PE X o1 (tVar i)) (ho2 : PE X o2 (tVar i)) (hj : EX X S W i1 fj) (hk : EX X S W i2 fk) (h : LX X S W [a, b] f)
    (ha1 : ∀ v, assign (.Subscript o1 i1 s1) X.env v = (do
      let ov ← holding [v] (eval o1 X.env)
      let iv ← holding [v, ov] (eval i1 X.env)
      standAt s1
      holding [v, ov, iv] (setItem ov iv v)
      release [v, ov, iv] []) := by intro _; rfl)
    (ha2 : ∀ v, assign (.Subscript o2 i2 s2) X.env v = (do
      let ov ← holding [v] (eval o2 X.env)
      let iv ← holding [v, ov] (eval i2 X.env)
      standAt s2
      holding [v, ov, iv] (setItem ov iv v)
      release [v, ov, iv] []) := by intro _; rfl)
    (hc1 : (assignEach [.Subscript o1 i1 s1, .Subscript o2 i2 s2] X.env).map (·.2) = assign (.Subscript o1 i1 s1) X.env :: (assignEach [.Subscript o2 i2 s2] X.env).map (·.2) := by rfl)
    (hc2 : (assignEach [.Subscript o2 i2 s2] X.env).map (·.2) = assign (.Subscript o2 i2 s2) X.env :: (assignEach [] X.env).map (·.2) := by rfl)
    (hn : (assignEach [.Subscript o1 i1 s1, .Subscript o2 i2 s2] X.env).length = 2 := by rfl) (hst : (assignEach [.Subscript o1 i1 s1, .Subscript o2 i2 s2] X.env).findIdx? (·.1) = none := by rfl)
    (hw : swappedStores [.Tuple [.Subscript o1 i1 s1, .Subscript o2 i2 s2] kt pt] (.Tuple [a, b] k2 pt2) X.env = pure none := by rfl) (hs : swapsWithSole [.Tuple [.Subscript o1 i1 s1, .Subscript o2 i2 s2] kt pt] (.Tuple [a, b] k2 pt2) pos.line X.env = pure false := by rfl)
    (h1 : (assignEach [.Tuple [.Subscript o1 i1 s1, .Subscript o2 i2 s2] kt pt] X.env).map (·.2) = [assign (.Tuple [.Subscript o1 i1 s1, .Subscript o2 i2 s2] kt pt) X.env] := by rfl) :
    SX X S W (.Assign [.Tuple [.Subscript o1 i1 s1, .Subscript o2 i2 s2] kt pt] (.Tuple [a, b] k2 pt2) pos) (sset2 i f fj fk) := by
  obtain ⟨tt, pt', qt⟩ := ex_tup (x1 := k2) (pos := pt2) h
  obtain ⟨tj, pj, qj⟩ := hj
  obtain ⟨tk, pk, qk⟩ := hk
  refine ⟨_, ps_asg pt' (pg_tup G.calm (pgs_cons (pg_sub ho1 pj set_list ha1) (pgs_cons (pg_sub ho2 pk set_list ha2) pgs_nil hc2) hc1) hn hst) hs hw h1, ?_⟩
  have step : ∀ {tx : TE} {fx : Env → Wp D} (H0 : Ent) (δ : Env) (σ : Sl) (F H : Hp) (b : Nat) (R : Out → Nat → Prop) (D' : Ends) (v : V) (d : D) (ds : List D) (nxt : TS) (PP : Except Er D → Nat → Prop), DG S W OkV tx fx → Rel S H0 δ σ F H b → IsD F v d → δ[i]? = some (some (.own ds)) →
      fx δ b PP → (∀ x b1, PP (.ok x) b1 → ∃ j m, x = .int j ∧ ixN ds.length j = some m ∧ ∀ (F' H' : Hp), Rel S H0 (δ.set i (some (.own (ds.set m d)))) σ F' H' b1 → Ex F F' → nxt D' σ H') →
      (∀ e b', PP (.error e) b' → ∀ δ' σ' F' H', Rel S H0 δ' σ' F' H' b' → Ex F F' → W (S.cls e) none σ' H') → gSub (tVar i) tx rSetL v σ H fun σ' H' => nxt D' σ' H' := by
    intro tx fx H0 δ σ F H b R D' v d ds nxt PP qx rel hv hd hf ok er
    obtain ⟨w0, e1, o1⟩ := rel.cell i _ hd
    obtain ⟨n, vs, rfl, w, hn, hq⟩ := o1
    refine ⟨_, e1, ?_⟩
    refine qx H0 δ σ F H b _ _ rel hf ⟨fun dj b2 r2 vj F2 H2 q3 x3 g3 o3 => ?_, fun e b2 r2 F2 H2 q3 x3 g3 => er e b2 r2 δ σ F2 H2 q3 x3⟩
    obtain ⟨j, m, rfl, hm, r2⟩ := ok dj b2 r2
    obtain ⟨v2, e2, o4⟩ := q3.cell i _ hd
    rw [e1] at e2
    cases e2
    obtain ⟨n2, vs2, en, w2, hn2, hq2⟩ := o4
    cases en
    cases o3
    refine ⟨n, vs2, j, m, rfl, rfl, hn2, by rw [hq2.length]; exact hm, ?_⟩
    exact r2 F2 _ (q3.poke hd rfl e1 rfl ⟨n, _, rfl, w2, upd_same, hq2.setI (hv.mono x3) m⟩) x3
  refine ds_lift (tk := fun v D' σ H => gTup X.K 2 (gCons (gSub (tVar i) tj rSetL) (gCons (gSub (tVar i) tk rSetL) gNil)) v σ H D'.nx) qt fun H0 δ σ F1 H1 F H b1 b R D' v t r1 rel o hf P => ?_
  have hf' := hf
  split at hf'
  case h_2 => exact hf'.elim
  rename_i d e ds hd
  clear hf
  have o' : IsD F v (.tuple [d, e]) := o
  cases o' with
  | tup h1 h2 =>
    obtain ⟨v1, v2, rfl, u1, u2⟩ := isds2 h2
    refine ⟨_, _, rfl, SqT.of (rel.sub _ _ h1), rfl, v1, [v2], rfl, ?_⟩
    refine step H0 δ σ F H b R D' v1 d ds (fun D' σ H => gCons (gSub (tVar i) tk rSetL) gNil [v2] σ H D'.nx) _ qj rel u1 hd hf' (fun x b1 hx => ?_) (fun er b' r δ' σ' F' H' q x => P.er er b' r δ' σ' F' H' q x)
    cases x with
    | int j =>
      obtain ⟨m, hm, hx⟩ := hx
      refine ⟨j, m, rfl, hm, fun F' H' rel' ex => ⟨v2, [], rfl, ?_⟩⟩
      have hi : i < δ.length := (List.getElem?_eq_some_iff.mp hd).1
      refine step H0 _ σ F' H' b1 R D' v2 e (ds.set m d) (fun D' σ H => gNil [] σ H D'.nx) _ qk rel' (u2.mono ex) (by rw [List.getElem?_set_self hi]) hx (fun y b2 hy => ?_) (fun er b' r δ' σ' F2 H2 q x => P.er er b' r δ' σ' F2 H2 q (ex.tr x))
      cases y with
      | int k =>
        obtain ⟨n, hn', hy⟩ := hy
        rw [List.length_set]
        refine ⟨k, n, rfl, hn', fun F2 H2 rel2 ex2 => ⟨rfl, ?_⟩⟩
        rw [List.set_set] at rel2
        exact P.nx _ b2 hy σ F2 H2 rel2 (ex.tr ex2)
      | _ => exact hy.elim
    | _ => exact hx.elim
end
end BB

set_option Elab.async false
set_option linter.all false
set_option maxRecDepth 100000
set_option autoImplicit false
set_option maxHeartbeats 2000000
/-! Bb24: running denotations step by step: what comes behind a step has a name and is not looked into until the step has answered. -/
namespace BB
open PySem PySem.Spec PyProof.Rows L2
section
variable {α β : Type}
def KB (n : α → Wp β) (R : Except Er β → Nat → Prop) : Except Er α → Nat → Prop := fun r b => match r with
  | .ok x => n x b R
  | .error e => R (.error e) b
def KT (R : Except Er Bool → Nat → Prop) : Except Er D → Nat → Prop := fun r b => match r with
  | .ok (.bool k) => R (.ok k) b
  | .ok _ => False
  | .error e => R (.error e) b
def KA (h : Env → Wp Bool) (δ : Env) (R : Except Er Bool → Nat → Prop) : Except Er Bool → Nat → Prop := fun r b => match r with
  | .ok k => if k = true then h δ b R else R (.ok false) b
  | .error e => R (.error e) b
def KO (h : Env → Wp Bool) (δ : Env) (R : Except Er Bool → Nat → Prop) : Except Er Bool → Nat → Prop := fun r b => match r with
  | .ok k => if k = true then R (.ok true) b else h δ b R
  | .error e => R (.error e) b
def KAV (g : Env → Wp D) (δ : Env) (R : Except Er D → Nat → Prop) : Except Er D → Nat → Prop := fun r b => match r with
  | .ok (.bool k) => if k = true then g δ b R else R (.ok (.bool false)) b
  | .ok _ => False
  | .error e => R (.error e) b
def KOV (g : Env → Wp D) (δ : Env) (R : Except Er D → Nat → Prop) : Except Er D → Nat → Prop := fun r b => match r with
  | .ok (.bool k) => if k = true then R (.ok (.bool true)) b else g δ b R
  | .ok _ => False
  | .error e => R (.error e) b
def KNV (R : Except Er D → Nat → Prop) : Except Er D → Nat → Prop := fun r b => match r with
  | .ok (.bool k) => R (.ok (.bool (!k))) b
  | .ok _ => False
  | .error e => R (.error e) b
def KF (f g : Env → Wp D) (δ : Env) (R : Except Er D → Nat → Prop) : Except Er Bool → Nat → Prop := fun r b => match r with
  | .ok k => if k = true then f δ b R else g δ b R
  | .error e => R (.error e) b
def kOp : D → Wp (Option Int) := fun d b R => match d with
  | .int i => R (.ok (some i)) b
  | _ => False
def kItems : D → Wp (List D) := fun d b R => match d with
  | .list ds => R (.ok ds) b
  | .tuple ds => R (.ok ds) b
  | _ => False
def kCh (G2 : D → D → Wp D) (f3 : Env → Wp D) (δ : Env) (y : D) : D → Wp D := fun z b R => match z with
  | .bool k => if k = true then wbind (f3 δ) (fun w => G2 y w) b R else R (.ok (.bool false)) b
  | _ => False
def KS (t : SW) (R : Out → Nat → Prop) : Out → Nat → Prop := fun o b => match o with
  | .nx δ' => t δ' b R
  | .rt d => R (.rt d) b
  | .bk δ' => R (.bk δ') b
  | .ct δ' => R (.ct δ') b
  | .er e => R (.er e) b
def KL (K : α → SW) (δ : Env) (R : Out → Nat → Prop) : Except Er α → Nat → Prop := fun r b => match r with
  | .ok x => K x δ b R
  | .error e => R (.er e) b
def KI (s t : SW) (δ : Env) (R : Out → Nat → Prop) : Except Er Bool → Nat → Prop := fun r b => match r with
  | .ok k => if k = true then s δ b R else t δ b R
  | .error e => R (.er e) b
def KTr (R : Out → Nat → Prop) : Out → Nat → Prop := fun o b => match o with
  | .er e => R (.rt (.str (erTx e))) b
  | o => R o b
def KR (R : Except Er D → Nat → Prop) : Out → Nat → Prop := fun o b => match o with
  | .nx _ => R (.ok .none) b
  | .rt d => R (.ok d) b
  | .er e => R (.error e) b
  | .bk _ => False
  | .ct _ => False
def KAp (n : Nat) (ds : List D) (δ : Env) (R : Out → Nat → Prop) : Except Er D → Nat → Prop := fun r b => match r with
  | .ok d => ds.length < sizeLine ∧ R (.nx (δ.set n (some (.own (ds ++ [d]))))) b
  | .error e => R (.er e) b
def KEx (n : Nat) (ds : List D) (δ : Env) (R : Out → Nat → Prop) : Except Er D → Nat → Prop := fun r b => match r with
  | .ok (.list es) => ds.length + es.length ≤ sizeLine ∧ R (.nx (δ.set n (some (.own (ds ++ es))))) b
  | .ok _ => False
  | .error e => R (.er e) b
def KW (K : Env → Nat → Prop) (R : Out → Nat → Prop) : Out → Nat → Prop := fun o b => match o with
  | .nx δ' => K δ' b
  | .ct δ' => K δ' b
  | .bk δ' => R (.nx δ') b
  | .rt d => R (.rt d) b
  | .er e => R (.er e) b
def KCe (Rt : D → Nat → Prop) : Except Er D → Nat → Prop := fun r b => match r with
  | .error _ => False
  | .ok y => Rt y b
def KCt (e : Env → Wp D) (δ : Env) (Rf : Nat → Prop) (Rt : D → Nat → Prop) : Except Er Bool → Nat → Prop := fun r b => match r with
  | .error _ => False
  | .ok false => Rf b
  | .ok true => e δ b (KCe Rt)
variable {n : α → Wp β} {m : Wp α} {R : Except Er β → Nat → Prop} {b : Nat} {x : α} {er : Er} {RB : Except Er Bool → Nat → Prop} {RD : Except Er D → Nat → Prop} {RO : Out → Nat → Prop} {δ δ' : Env} {c h : Env → Wp Bool} {f g f3 : Env → Wp D} {k : Bool} {d : D} {ds es : List D} {i : Int} {s t : SW} {F : Env → Wp α} {K : α → SW} {KE : Env → Nat → Prop} {Rf : Nat → Prop} {Rt : D → Nat → Prop} {e : Env → Wp D} {nn : Nat} {G2 : D → D → Wp D} {y : D}
@[simp ↓] theorem KB_ok : KB n R (.ok x) b = n x b R := id rfl
@[simp ↓] theorem KB_er : KB n R (.error er) b = R (.error er) b := id rfl
@[simp ↓] theorem KT_ok : KT RB (.ok (.bool k)) b = RB (.ok k) b := id rfl
@[simp ↓] theorem KT_er : KT RB (.error er) b = RB (.error er) b := id rfl
@[simp ↓] theorem KA_t : KA h δ RB (.ok true) b = h δ b RB := id rfl
@[simp ↓] theorem KA_f : KA h δ RB (.ok false) b = RB (.ok false) b := id rfl
@[simp ↓] theorem KA_er : KA h δ RB (.error er) b = RB (.error er) b := id rfl
@[simp ↓] theorem KO_t : KO h δ RB (.ok true) b = RB (.ok true) b := id rfl
@[simp ↓] theorem KO_f : KO h δ RB (.ok false) b = h δ b RB := id rfl
@[simp ↓] theorem KO_er : KO h δ RB (.error er) b = RB (.error er) b := id rfl
@[simp ↓] theorem KAV_t : KAV g δ RD (.ok (.bool true)) b = g δ b RD := id rfl
@[simp ↓] theorem KAV_f : KAV g δ RD (.ok (.bool false)) b = RD (.ok (.bool false)) b := id rfl
@[simp ↓] theorem KAV_er : KAV g δ RD (.error er) b = RD (.error er) b := id rfl
@[simp ↓] theorem KOV_t : KOV g δ RD (.ok (.bool true)) b = RD (.ok (.bool true)) b := id rfl
@[simp ↓] theorem KOV_f : KOV g δ RD (.ok (.bool false)) b = g δ b RD := id rfl
@[simp ↓] theorem KOV_er : KOV g δ RD (.error er) b = RD (.error er) b := id rfl
@[simp ↓] theorem KNV_ok : KNV RD (.ok (.bool k)) b = RD (.ok (.bool (!k))) b := id rfl
@[simp ↓] theorem KNV_er : KNV RD (.error er) b = RD (.error er) b := id rfl
@[simp ↓] theorem KF_t : KF f g δ RD (.ok true) b = f δ b RD := id rfl
@[simp ↓] theorem KF_f : KF f g δ RD (.ok false) b = g δ b RD := id rfl
@[simp ↓] theorem KF_er : KF f g δ RD (.error er) b = RD (.error er) b := id rfl
@[simp ↓] theorem kOp_i {R : Except Er (Option Int) → Nat → Prop} : kOp (.int i) b R = R (.ok (some i)) b := id rfl
@[simp ↓] theorem kItems_l {R : Except Er (List D) → Nat → Prop} : kItems (.list ds) b R = R (.ok ds) b := id rfl
@[simp ↓] theorem kItems_t {R : Except Er (List D) → Nat → Prop} : kItems (.tuple ds) b R = R (.ok ds) b := id rfl
@[simp ↓] theorem kCh_t : kCh G2 f3 δ y (.bool true) b RD = f3 δ b (KB (fun w => G2 y w) RD) := id rfl
@[simp ↓] theorem kCh_f : kCh G2 f3 δ y (.bool false) b RD = RD (.ok (.bool false)) b := id rfl
@[simp ↓] theorem KS_nx : KS t RO (.nx δ') b = t δ' b RO := id rfl
@[simp ↓] theorem KS_rt : KS t RO (.rt d) b = RO (.rt d) b := id rfl
@[simp ↓] theorem KS_bk : KS t RO (.bk δ') b = RO (.bk δ') b := id rfl
@[simp ↓] theorem KS_ct : KS t RO (.ct δ') b = RO (.ct δ') b := id rfl
@[simp ↓] theorem KS_er : KS t RO (.er er) b = RO (.er er) b := id rfl
@[simp ↓] theorem KL_ok : KL K δ RO (.ok x) b = K x δ b RO := id rfl
@[simp ↓] theorem KL_er : KL K δ RO (.error er) b = RO (.er er) b := id rfl
@[simp ↓] theorem KI_t : KI s t δ RO (.ok true) b = s δ b RO := id rfl
@[simp ↓] theorem KI_f : KI s t δ RO (.ok false) b = t δ b RO := id rfl
@[simp ↓] theorem KI_er : KI s t δ RO (.error er) b = RO (.er er) b := id rfl
@[simp ↓] theorem KTr_nx : KTr RO (.nx δ') b = RO (.nx δ') b := id rfl
@[simp ↓] theorem KTr_rt : KTr RO (.rt d) b = RO (.rt d) b := id rfl
@[simp ↓] theorem KTr_bk : KTr RO (.bk δ') b = RO (.bk δ') b := id rfl
@[simp ↓] theorem KTr_ct : KTr RO (.ct δ') b = RO (.ct δ') b := id rfl
@[simp ↓] theorem KTr_er : KTr RO (.er er) b = RO (.rt (.str (erTx er))) b := id rfl
@[simp ↓] theorem KR_nx : KR RD (.nx δ') b = RD (.ok .none) b := id rfl
@[simp ↓] theorem KR_rt : KR RD (.rt d) b = RD (.ok d) b := id rfl
@[simp ↓] theorem KR_er : KR RD (.er er) b = RD (.error er) b := id rfl
@[simp ↓] theorem KAp_ok : KAp nn ds δ RO (.ok d) b = (ds.length < sizeLine ∧ RO (.nx (δ.set nn (some (.own (ds ++ [d]))))) b) := id rfl
@[simp ↓] theorem KAp_er : KAp nn ds δ RO (.error er) b = RO (.er er) b := id rfl
@[simp ↓] theorem KEx_ok : KEx nn ds δ RO (.ok (.list es)) b = (ds.length + es.length ≤ sizeLine ∧ RO (.nx (δ.set nn (some (.own (ds ++ es))))) b) := id rfl
@[simp ↓] theorem KEx_er : KEx nn ds δ RO (.error er) b = RO (.er er) b := id rfl
@[simp ↓] theorem KW_nx : KW KE RO (.nx δ') b = KE δ' b := id rfl
@[simp ↓] theorem KW_ct : KW KE RO (.ct δ') b = KE δ' b := id rfl
@[simp ↓] theorem KW_bk : KW KE RO (.bk δ') b = RO (.nx δ') b := id rfl
@[simp ↓] theorem KW_rt : KW KE RO (.rt d) b = RO (.rt d) b := id rfl
@[simp ↓] theorem KW_er : KW KE RO (.er er) b = RO (.er er) b := id rfl
@[simp ↓] theorem KCe_ok : KCe Rt (.ok d) b = Rt d b := id rfl
@[simp ↓] theorem KCt_t : KCt e δ Rf Rt (.ok true) b = e δ b (KCe Rt) := id rfl
@[simp ↓] theorem KCt_f : KCt e δ Rf Rt (.ok false) b = Rf b := id rfl
/-! the steps -/
theorem k_wbind : wbind m n b R = m b (KB n R) := id rfl
theorem k_wk {F : Env → Wp α} {G : α → Wp β} : wk G F δ b R = F δ b (KB G R) := id rfl
theorem k_wb2 {G : D → D → Wp D} : wb2 G f g δ b RD = f δ b (KB (fun x => wk (G x) g δ) RD) := id rfl
theorem k_wb1 {G : D → Wp D} : wb1 G f δ b RD = f δ b (KB G RD) := id rfl
theorem k_wtest : wtest f δ b RB = f δ b (KT RB) := by
  show f δ b _ = _
  congr 1; funext r b'
  cases r with
  | error e => rfl
  | ok x => cases x <;> rfl
theorem k_wand : wand c h δ b RB = c δ b (KA h δ RB) := by
  show c δ b _ = _
  congr 1; funext r b'
  cases r with
  | error e => rfl
  | ok x => cases x <;> rfl
theorem k_wor : wor c h δ b RB = c δ b (KO h δ RB) := by
  show c δ b _ = _
  congr 1; funext r b'
  cases r with
  | error e => rfl
  | ok x => cases x <;> rfl
theorem k_wnot : wnot c δ b RB = c δ b (KB (fun x => wret (!x)) RB) := id rfl
theorem k_wandV : wandV f g δ b RD = f δ b (KAV g δ RD) := by rw [e_wandV]; rfl
theorem k_worV : worV f g δ b RD = f δ b (KOV g δ RD) := by rw [e_worV]; rfl
theorem k_wnotV : wnotV f δ b RD = f δ b (KNV RD) := by rw [e_wnotV]; rfl
theorem k_wif : wif c f g δ b RD = c δ b (KF f g δ RD) := by rw [e_wif]; rfl
theorem k_wchain {G1 G2 : D → D → Wp D} : wchain G1 G2 f g f3 δ b RD = f δ b (KB (fun x => wbind (g δ) fun y => wbind (G1 x y) (kCh G2 f3 δ y)) RD) := by rw [e_wchain]; rfl
theorem k_wop {R : Except Er (Option Int) → Nat → Prop} : wop f δ b R = f δ b (KB kOp R) := id rfl
theorem k_witems {R : Except Er (List D) → Nat → Prop} : witems f δ b R = f δ b (KB kItems R) := id rfl
theorem k_sseq : sseq s t δ b RO = s δ b (KS t RO) := id rfl
theorem k_slift : slift F K δ b RO = F δ b (KL K δ RO) := id rfl
theorem k_sdrop : sdrop f δ b RO = f δ b (KL (fun _ => snil) δ RO) := id rfl
theorem k_sret : sret f δ b RO = f δ b (KL (fun d _ b R => R (.rt d) b) δ RO) := id rfl
theorem k_sif : sif c s t δ b RO = c δ b (KI s t δ RO) := by rw [e_sif]; rfl
theorem k_stry : stry s δ b RO = s δ b (KTr RO) := id rfl
theorem k_sapp {n : Nat} : sapp n f δ b RO = match δ[n]? with
  | some (some (.own ds)) => f δ b (KAp n ds δ RO)
  | _ => False := id rfl
theorem k_sext {n : Nat} : sext n f δ b RO = match δ[n]? with
  | some (some (.own ds)) => f δ b (KEx n ds δ RO)
  | _ => False := id rfl
theorem k_runB {n : Nat} {cs : List Cell} : runB n s cs b RD = s (startE n cs) b (KR RD) := id rfl
def kTup : List D → Wp D := fun xs b R => xs.length ≤ sizeLine ∧ R (.ok (.tuple xs)) b
def kLis : List D → Wp (List D) := fun xs b R => xs.length ≤ sizeLine ∧ R (.ok xs) b
def kRep (ds : List D) : D → Wp (List D) := fun y b R => match y with
  | .int n => -(2 ^ 63) ≤ n ∧ n < 2 ^ 63 ∧ ds.length * n.toNat ≤ sizeLine ∧ R (.ok (List.replicate n.toNat ds).flatten) b
  | _ => False
@[simp ↓] theorem kTup_ok : kTup ds b RD = (ds.length ≤ sizeLine ∧ RD (.ok (.tuple ds)) b) := id rfl
@[simp ↓] theorem kLis_ok {R : Except Er (List D) → Nat → Prop} : kLis ds b R = (ds.length ≤ sizeLine ∧ R (.ok ds) b) := id rfl
@[simp ↓] theorem kRep_ok {R : Except Er (List D) → Nat → Prop} : kRep ds (.int i) b R = (-(2 ^ 63) ≤ i ∧ i < 2 ^ 63 ∧ ds.length * i.toNat ≤ sizeLine ∧ R (.ok (List.replicate i.toNat ds).flatten) b) := id rfl
variable {fl : Env → Wp (List D)} {RL : Except Er (List D) → Nat → Prop} {RC : Except Er Cell → Nat → Prop} {RLC : Except Er (List Cell) → Nat → Prop}
theorem k_wlst : wlst fl δ b RD = fl δ b (KB (fun ds => wret (.list ds)) RD) := id rfl
theorem k_warg : warg f δ b RC = f δ b (KB (fun d => wret (.val d)) RC) := id rfl
theorem k_wnil : wnil δ b RL = RL (.ok []) b := id rfl
theorem k_wcons : wcons f fl δ b RL = f δ b (KB (fun x => wk (fun xs => wret (x :: xs)) fl δ) RL) := id rfl
theorem k_wnilC : wnilC δ b RLC = RLC (.ok []) b := id rfl
theorem k_wconsC {fc : Env → Wp Cell} {fa : Env → Wp (List Cell)} : wconsC fc fa δ b RLC = fc δ b (KB (fun x => wk (fun xs => wret (x :: xs)) fa δ) RLC) := id rfl
theorem k_wtup : wtup fl δ b RD = fl δ b (KB kTup RD) := id rfl
theorem k_wlis : wlis fl δ b RL = fl δ b (KB kLis RL) := id rfl
def kComp (vs : List Nat) (G : TgW) (c : Env → Wp Bool) (f : Env → Wp D) (δ : Env) : List D → Wp (List D) := fun ds b R => ds.length ≤ sizeLine ∧ wComp G c f ds (wipeE δ vs) b fun ys b' => R (.ok ys) b'
@[simp ↓] theorem kComp_ok {vs : List Nat} {G : TgW} : kComp vs G c f δ ds b RL = (ds.length ≤ sizeLine ∧ wComp G c f ds (wipeE δ vs) b (KCR RL)) := id rfl
theorem k_wlc {vs : List Nat} {G : TgW} : wlc fl vs G c f δ b RL = fl δ b (KB (kComp vs G c f δ) RL) := id rfl
theorem k_wcall {fa : Env → Wp (List Cell)} {s : Spec} : wcall fa s δ b RD = fa δ b (KB s RD) := id rfl
theorem k_wsl {o1 o2 : Env → Wp (Option Int)} : wsl f o1 o2 δ b RD = f δ b (KB (fun x => wk (fun lo => wk (fun hi => kSl x lo hi) o2 δ) o1 δ) RD) := id rfl
theorem k_wTupRg {fr : Env → Wp (Int × Int)} : wTupRg fr δ b RD = fr δ b (KB (fun p => wret (.tuple (rangeD p.1 p.2))) RD) := id rfl
theorem k_wLstRg {fr : Env → Wp (Int × Int)} : wLstRg fr δ b RL = fr δ b (KB (fun p => wret (rangeD p.1 p.2)) RL) := id rfl
def kCat (xs : List D) : List D → Wp (List D) := fun ys b R => xs.length + ys.length ≤ sizeLine ∧ R (.ok (xs ++ ys)) b
@[simp ↓] theorem kCat_ok {xs ys : List D} {R : Except Er (List D) → Nat → Prop} : kCat xs ys b R = (xs.length + ys.length ≤ sizeLine ∧ R (.ok (xs ++ ys)) b) := id rfl
theorem k_wcat {fa fb : Env → Wp (List D)} {R : Except Er (List D) → Nat → Prop} : wcat fa fb δ b R = fa δ b (KB (fun xs => wk (kCat xs) fb δ) R) := id rfl
theorem k_wrep : wrep fl f δ b RL = fl δ b (KB (fun ds => wk (kRep ds) f δ) RL) := id rfl
def kSel (fa : Env → Wp (List Cell)) (specs : List Spec) (δ : Env) : D → Wp D := fun d b R => match d with
  | .int i => ∃ sp, atI specs i = some sp ∧ fa δ b (KB sp R)
  | _ => False
@[simp ↓] theorem kSel_ok {fa : Env → Wp (List Cell)} {specs : List Spec} : kSel fa specs δ (.int i) b RD = ∃ sp, atI specs i = some sp ∧ fa δ b (KB sp RD) := id rfl
theorem k_wsel {fi : Env → Wp D} {fa : Env → Wp (List Cell)} {specs : List Spec} : wsel fi fa specs δ b RD = fi δ b (KB (kSel fa specs δ) RD) := id rfl
@[simp ↓] theorem e_kslT {lo hi : Option Int} : kSl (.tuple ds) lo hi b RD = RD (.ok (.tuple (cutD ds lo hi))) b := id rfl
@[simp ↓] theorem e_kslL {lo hi : Option Int} : kSl (.list ds) lo hi b RD = RD (.ok (.list (cutD ds lo hi))) b := id rfl
@[simp ↓] theorem e_kzipL : kZip [.list ds, .list es] b RL = RL (.ok (zipD ds es)) b := id rfl
@[simp ↓] theorem e_kzipT : kZip [.tuple ds, .tuple es] b RL = RL (.ok (zipD ds es)) b := id rfl
@[simp ↓] theorem e_krepr {R : Except Er D → Nat → Prop} : kRepr (.list ds) b R = (reprOk (.list ds) ∧ R (.ok (.str (PyData.list ds).shown)) b) := id rfl
@[simp ↓] theorem e_kreprT {R : Except Er D → Nat → Prop} : kRepr (.tuple ds) b R = (reprOk (.tuple ds) ∧ R (.ok (.str (PyData.tuple ds).shown)) b) := id rfl
theorem k_sasg {n : Nat} : sasg n f δ b RO = f δ b (KL (fun d δ b R => R (.nx (δ.set n (some (.val d)))) b) δ RO) := id rfl
theorem k_sasgF {n : Nat} : sasgF n fl δ b RO = fl δ b (KL (fun d δ b R => R (.nx (δ.set n (some (.own d)))) b) δ RO) := id rfl
theorem k_sasgT {G : TgW} : sasgT G f δ b RO = f δ b (KL (fun d δ b R => G d δ fun δ' => R (.nx δ') b) δ RO) := id rfl
theorem k_sfor {G : TgW} : sfor fl G s δ b RO = fl δ b (KL (fun ds => wFor G s ds) δ RO) := id rfl
/-! dicts, pops, two sources -/
theorem k_wlc2 {vs : List Nat} {i i1 : Nat} {fi : Env → Wp (List D)} : wlc2 fl vs i i1 fi f δ b RL = fl δ b (KB (kComp2 vs i i1 fi f δ) RL) := id rfl
theorem k_spop {i j : Nat} : spop i j δ b RO = match δ[i]? with
  | some (some (.own ds)) => ∃ d, ds[ds.length - 1]? = some d ∧ RO (.nx ((δ.set i (some (.own ds.dropLast))).set j (some (.val d)))) b
  | _ => False := id rfl
theorem k_spopAt {i j n : Nat} : spopAt i j n δ b RO = match δ[i]? with
  | some (some (.own ds)) => ∃ d, ds[n]? = some d ∧ RO (.nx ((δ.set i (some (.own (ds.eraseIdx n)))).set j (some (.val d)))) b
  | _ => False := id rfl
def KDo2 (i : Nat) (y : D) (δ : Env) (R : Out → Nat → Prop) : Except Er D → Nat → Prop := fun r b => match r with
  | .error er => R (.er er) b
  | .ok d => ∃ key, y = keyD key ∧ R (.nx (δ.set i (some (.dk [(key, d)])))) b
def KDo (i : Nat) (fv : Env → Wp D) (δ : Env) (R : Out → Nat → Prop) : Except Er D → Nat → Prop := fun r b => match r with
  | .error er => R (.er er) b
  | .ok y => fv δ b (KDo2 i y δ R)
@[simp ↓] theorem KDo_ok {i : Nat} {fv : Env → Wp D} : KDo i fv δ RO (.ok d) b = fv δ b (KDo2 i d δ RO) := id rfl
@[simp ↓] theorem KDo2_ok {i : Nat} {y : D} : KDo2 i y δ RO (.ok d) b = ∃ key, y = keyD key ∧ RO (.nx (δ.set i (some (.dk [(key, d)])))) b := id rfl
theorem k_sdone {i : Nat} {fv : Env → Wp D} : sdone i f fv δ b RO = f δ b (KDo i fv δ RO) := id rfl
def KDg (kvs : List (Key × D)) (R : Except Er D → Nat → Prop) : Except Er D → Nat → Prop := fun r b => match r with
  | .error er => R (.error er) b
  | .ok y => ∃ key d, y = keyD key ∧ getD' kvs key = some d ∧ R (.ok d) b
@[simp ↓] theorem KDg_ok {kvs : List (Key × D)} : KDg kvs RD (.ok d) b = ∃ key e, d = keyD key ∧ getD' kvs key = some e ∧ RD (.ok e) b := id rfl
theorem k_wdget {i : Nat} : wdget i f δ b RD = match δ[i]? with
  | some (some (.dk kvs)) => f δ b (KDg kvs RD)
  | _ => False := id rfl
def KDx2 (kvs : List (Key × D)) (y : D) (R : Except Er D → Nat → Prop) : Except Er D → Nat → Prop := fun r b => match r with
  | .error er => R (.error er) b
  | .ok z => ∃ key, y = keyD key ∧ R (.ok ((getD' kvs key).getD z)) b
def KDx (kvs : List (Key × D)) (fv : Env → Wp D) (δ : Env) (R : Except Er D → Nat → Prop) : Except Er D → Nat → Prop := fun r b => match r with
  | .error er => R (.error er) b
  | .ok y => fv δ b (KDx2 kvs y R)
@[simp ↓] theorem KDx_ok {kvs : List (Key × D)} {fv : Env → Wp D} : KDx kvs fv δ RD (.ok d) b = fv δ b (KDx2 kvs d RD) := id rfl
@[simp ↓] theorem KDx2_ok {kvs : List (Key × D)} {y : D} : KDx2 kvs y RD (.ok d) b = ∃ key, y = keyD key ∧ RD (.ok ((getD' kvs key).getD d)) b := id rfl
theorem k_wdgetX {i : Nat} {fv : Env → Wp D} : wdgetX i f fv δ b RD = match δ[i]? with
  | some (some (.dk kvs)) => f δ b (KDx kvs fv δ RD)
  | _ => False := id rfl
def KDp2 (i : Nat) (kvs : List (Key × D)) (d : D) (δ : Env) (R : Out → Nat → Prop) : Except Er D → Nat → Prop := fun r b => match r with
  | .error er => R (.er er) b
  | .ok y => ∃ key, y = keyD key ∧ kvs.length < sizeLine ∧ R (.nx (δ.set i (some (.dk (putD kvs key d))))) b
def KDp (i : Nat) (kvs : List (Key × D)) (fk : Env → Wp D) (δ : Env) (R : Out → Nat → Prop) : Except Er D → Nat → Prop := fun r b => match r with
  | .error er => R (.er er) b
  | .ok d => fk δ b (KDp2 i kvs d δ R)
@[simp ↓] theorem KDp_ok {i : Nat} {kvs : List (Key × D)} {fk : Env → Wp D} : KDp i kvs fk δ RO (.ok d) b = fk δ b (KDp2 i kvs d δ RO) := id rfl
@[simp ↓] theorem KDp2_ok {i : Nat} {kvs : List (Key × D)} {y : D} : KDp2 i kvs d δ RO (.ok y) b = ∃ key, y = keyD key ∧ kvs.length < sizeLine ∧ RO (.nx (δ.set i (some (.dk (putD kvs key d))))) b := id rfl
theorem k_sdput {i : Nat} {fk fv : Env → Wp D} : sdput i fk fv δ b RO = match δ[i]? with
  | some (some (.dk kvs)) => fv δ b (KDp i kvs fk δ RO)
  | _ => False := id rfl
def kDin (neg : Bool) (c : Option (Option Cell)) : D → Wp Bool := fun y b R => match c with
  | some (some (.dk kvs)) => ∃ key, y = keyD key ∧ R (.ok (if neg = true then !(getD' kvs key).isSome else (getD' kvs key).isSome)) b
  | _ => False
@[simp ↓] theorem kDin_ok {neg : Bool} {kvs : List (Key × D)} : kDin neg (some (some (.dk kvs))) d b RB = ∃ key, d = keyD key ∧ RB (.ok (if neg = true then !(getD' kvs key).isSome else (getD' kvs key).isSome)) b := id rfl
theorem k_wdin {neg : Bool} {i : Nat} : wdin neg i f δ b RB = f δ b (KB (kDin neg δ[i]?) RB) := id rfl
theorem k_wlenD {i : Nat} : wlenD i δ b RD = match δ[i]? with
  | some (some (.dk kvs)) => RD (.ok (.int kvs.length)) b
  | _ => False := id rfl
def kDc (vs : List Nat) (g : TgW) (c : Env → Wp Bool) (ek ev : Env → Wp D) (δ : Env) : List D → Wp (List (Key × D)) := fun ds b R => ds.length < sizeLine ∧ wDcomp g c ek ev ds (wipeE δ vs) [] b fun ys b' => R (.ok ys) b'
@[simp ↓] theorem kDc_ok {vs : List Nat} {g : TgW} {ek ev : Env → Wp D} {R : Except Er (List (Key × D)) → Nat → Prop} : kDc vs g c ek ev δ ds b R = (ds.length < sizeLine ∧ wDcomp g c ek ev ds (wipeE δ vs) [] b (KCR R)) := id rfl
theorem k_wdc {vs : List Nat} {g : TgW} {ek ev : Env → Wp D} {R : Except Er (List (Key × D)) → Nat → Prop} : wdc fl vs g c ek ev δ b R = fl δ b (KB (kDc vs g c ek ev δ) R) := id rfl
theorem k_sasgD {i : Nat} {fd : Env → Wp (List (Key × D))} : sasgD i fd δ b RO = fd δ b (KL (fun d δ b R => R (.nx (δ.set i (some (.dk d)))) b) δ RO) := id rfl
theorem k_wsortD {i : Nat} : wsortD i δ b RL = match δ[i]? with
  | some (some (.dk kvs)) => ∃ ns : List Int, kvs.map (·.1) = ns.map Sum.inl ∧ ns.length < 64 ∧ ∀ ys : List Int, ys.Perm ns → ys.Pairwise (· ≤ ·) → RL (.ok (ys.map PyData.int)) b
  | _ => False := id rfl
@[simp] theorem unlk_none {a : Addr} : unlkC a none = none := rfl
@[simp] theorem unlk_val {a : Addr} {d : D} : unlkC a (some (.val d)) = some (.val d) := rfl
@[simp] theorem unlk_st {a : Addr} : unlkC a (some .st) = some .st := rfl
@[simp] theorem unlk_own {a : Addr} {ds : List D} : unlkC a (some (.own ds)) = some (.own ds) := rfl
@[simp] theorem unlk_dk {a : Addr} {l : List (Key × D)} : unlkC a (some (.dk l)) = some (.dk l) := rfl
@[simp] theorem unlk_ro {a : Addr} {l : List Int} : unlkC a (some (.ro l)) = some (.ro l) := rfl
@[simp] theorem unlk_lk {a : Addr} {l : List (Key × D)} : unlkC a (some (.lk a l)) = none := if_pos rfl
def KSk (i : Nat) (a : Addr) (kvs : List (Key × D)) (R : Out → Nat → Prop) : Out → Nat → Prop := fun o b' => match o with
  | .nx δ' => δ'[i]? = some (some (.lk a kvs)) ∧ R (.nx ((δ'.map (unlkC a)).set i (some (.dk kvs)))) b'
  | .rt d => R (.rt d) b'
  | .er e => R (.er e) b'
  | .bk _ => False
  | .ct _ => False
@[simp ↓] theorem KSk_nx {i : Nat} {a : Addr} {kvs : List (Key × D)} : KSk i a kvs RO (.nx δ) b = (δ[i]? = some (some (.lk a kvs)) ∧ RO (.nx ((δ.map (unlkC a)).set i (some (.dk kvs)))) b) := id rfl
@[simp ↓] theorem KSk_rt {i : Nat} {a : Addr} {kvs : List (Key × D)} : KSk i a kvs RO (.rt d) b = RO (.rt d) b := id rfl
@[simp ↓] theorem KSk_er {i : Nat} {a : Addr} {kvs : List (Key × D)} {e : Er} : KSk i a kvs RO (.er e) b = RO (.er e) b := id rfl
theorem k_slock {i : Nat} {s : SW} : slock i s δ b RO = match δ[i]? with
  | some (some (.dk kvs)) => ∀ a, s (δ.set i (some (.lk a kvs))) b (KSk i a kvs RO)
  | _ => False := id rfl
def KWk {α : Type} (R : Except Er α → Nat → Prop) : Except Er α → Nat → Prop := fun r b' => match r with
  | .ok x => R (.ok x) b'
  | .error _ => False
@[simp ↓] theorem KWk_ok {α : Type} {R : Except Er α → Nat → Prop} {x : α} : KWk R (.ok x) b = R (.ok x) b := id rfl
theorem k_wlock {α : Type} {i : Nat} {f : Env → Wp α} {R : Except Er α → Nat → Prop} : wlock i f δ b R = match δ[i]? with
  | some (some (.dk kvs)) => ∀ a, f (δ.set i (some (.lk a kvs))) b (KWk R)
  | _ => False := id rfl
theorem k_wkeysL {i : Nat} : wkeysL i δ b RL = match δ[i]? with
  | some (some (.lk _ kvs)) => RL (.ok (kvs.map fun p => keyD p.1)) b
  | _ => False := id rfl
def kDinL (neg : Bool) (c : Option (Option Cell)) : D → Wp Bool := fun y b R => match c with
  | some (some (.lk _ kvs)) => ∃ key, y = keyD key ∧ R (.ok (if neg = true then !(getD' kvs key).isSome else (getD' kvs key).isSome)) b
  | _ => False
@[simp ↓] theorem kDinL_ok {neg : Bool} {a : Addr} {kvs : List (Key × D)} : kDinL neg (some (some (.lk a kvs))) d b RB = ∃ key, d = keyD key ∧ RB (.ok (if neg = true then !(getD' kvs key).isSome else (getD' kvs key).isSome)) b := id rfl
theorem k_wdinL {neg : Bool} {i : Nat} : wdinL neg i f δ b RB = f δ b (KB (kDinL neg δ[i]?) RB) := id rfl
theorem k_windex {fo fa : Env → Wp D} : windex fo fa δ b RD = fo δ b (KB (kIx1 fa δ) RD) := id rfl
@[simp ↓] theorem kIx1_ok {fa : Env → Wp D} : kIx1 fa δ (.list ds) b RD = fa δ b (KB (kIx2 ds) RD) := id rfl
@[simp ↓] theorem kIx2_ok {n : Int} : kIx2 ds (.int n) b RD = ∃ (ns : List Int) (j : Nat), ds = ns.map PyData.int ∧ ns[j]? = some n ∧ (∀ m z, m < j → ns[m]? = some z → z ≠ n) ∧ RD (.ok (.int (j : Int))) b := id rfl
def KS2b (i : Nat) (ds1 : List D) (e : D) (δ : Env) (R : Out → Nat → Prop) : Except Er D → Nat → Prop := fun r b2 => match r with
  | .error er => R (.er er) b2
  | .ok (.int k) => ∃ n, ixN ds1.length k = some n ∧ R (.nx (δ.set i (some (.own (ds1.set n e))))) b2
  | .ok _ => False
theorem k_sset2 {i : Nat} {fl2 : Env → Wp (List D)} {fj fk : Env → Wp D} : sset2 i fl2 fj fk δ b RO = wtup fl2 δ b (KL (fun t δ b R => match t, δ[i]? with
  | .tuple [d, e], some (some (.own ds)) => fj δ b fun r b1 => match r with
    | .error er => R (.er er) b1
    | .ok (.int j) => ∃ m, ixN ds.length j = some m ∧ fk (δ.set i (some (.own (ds.set m d)))) b1 fun r b2 => match r with
      | .error er => R (.er er) b2
      | .ok (.int k) => ∃ n, ixN ds.length k = some n ∧ R (.nx (δ.set i (some (.own ((ds.set m d).set n e))))) b2
      | .ok _ => False
    | .ok _ => False
  | _, _ => False) δ RO) := id rfl
theorem k_sdnew {i : Nat} : sdnew i δ b RO = RO (.nx (δ.set i (some (.dk [])))) b := id rfl
@[simp] theorem ex_keyD {i : Int} {P : Key → Prop} : (∃ key, PyData.int i = keyD key ∧ P key) = P (.inl i) := by
  refine propext ⟨fun ⟨key, e, h⟩ => ?_, fun h => ⟨.inl i, rfl, h⟩⟩
  cases key with
  | inl j => cases e; exact h
  | inr x => cases e
@[simp] theorem ex_keyD2 {i : Int} {P : Key → D → Prop} : (∃ key e, PyData.int i = keyD key ∧ P key e) = ∃ e, P (.inl i) e := by
  refine propext ⟨fun ⟨key, e, h1, h⟩ => ?_, fun ⟨e, h⟩ => ⟨.inl i, e, rfl, h⟩⟩
  cases key with
  | inl j => cases h1; exact ⟨e, h⟩
  | inr x => cases h1
/-- dicts whose values are True -/
def dks (l : List Int) : List (Key × D) := l.map fun e => ((Sum.inl e : Key), PyData.bool true)
def addK (K : List Int) (e : Int) : List Int := if e ∈ K then K else K ++ [e]
theorem dks_len {l : List Int} : (dks l).length = l.length := List.length_map ..
theorem dks_keys {l : List Int} : (dks l).map (·.1) = l.map Sum.inl := by unfold dks; rw [List.map_map]; rfl
theorem dks_items {l : List Int} : (dks l).map (fun p => keyD p.1) = l.map PyData.int := by unfold dks; rw [List.map_map]; rfl
theorem dks_get {h : Int} : ∀ {K : List Int}, (getD' (dks K) (.inl h)).isSome = decide (h ∈ K)
  | [] => by simp [dks, getD']
  | e :: K => by
    have ih := dks_get (h := h) (K := K)
    unfold getD' dks at ih ⊢
    rw [List.map_cons, List.find?_cons]
    by_cases q : e = h
    · subst q; simp
    · have q2 : ¬ h = e := fun z => q z.symm
      have q3 : ¬ ((Sum.inl e : Key) = Sum.inl h) := fun z => q (Sum.inl.inj z)
      simp only [q3, decide_false, ih, List.mem_cons, q2, false_or]
theorem dks_put {h : Int} {K : List Int} : putD (dks K) (.inl h) (.bool true) = dks (addK K h) := by
  unfold putD addK
  have e : ((dks K).any fun kv => decide (kv.1 = Sum.inl h)) = decide (h ∈ K) := by
    unfold dks
    rw [List.any_map]
    by_cases q : h ∈ K
    · rw [decide_eq_true q, List.any_eq_true]
      exact ⟨h, q, by simp⟩
    · rw [decide_eq_false q, List.any_eq_false]
      intro x hx z
      have : x = h := by simpa using z
      subst this; exact q hx
  rw [e]
  by_cases q : h ∈ K
  · rw [if_pos (decide_eq_true q), if_pos q]
    unfold dks
    rw [List.map_map]
    refine List.map_congr_left fun x hx => ?_
    simp
  · rw [if_neg (by simpa using q), if_neg q]
    unfold dks
    rw [List.map_append]; rfl
def addAll (K : List Int) (l : List Int) : List Int := l.foldl addK K
theorem mem_addK {K : List Int} {e x : Int} : x ∈ addK K e ↔ x ∈ K ∨ x = e := by
  unfold addK
  split
  · rename_i h
    exact ⟨.inl, fun z => z.elim id fun q => q ▸ h⟩
  · simp
theorem nodup_addK {K : List Int} {e : Int} (h : K.Nodup) : (addK K e).Nodup := by
  unfold addK
  split
  · exact h
  · rename_i n
    rw [List.nodup_append]
    exact ⟨h, by simp, fun a ha b hb => by simp at hb; subst hb; intro z; subst z; exact n ha⟩
theorem mem_addAll {x : Int} : ∀ {l K : List Int}, x ∈ addAll K l ↔ x ∈ K ∨ x ∈ l
  | [], K => by simp [addAll]
  | e :: l, K => by
    show x ∈ addAll (addK K e) l ↔ _
    rw [mem_addAll, mem_addK, List.mem_cons, or_assoc]
theorem nodup_addAll : ∀ {l K : List Int}, K.Nodup → (addAll K l).Nodup
  | [], K, h => h
  | e :: l, K, h => nodup_addAll (l := l) (nodup_addK h)
theorem wDcomp_tc {α : Type} (enc : α → D) {i : Nat} {c : Env → Wp Bool} {ek : Env → Wp D} {δ : Env} {b : Nat} (p : α → Bool) (F : α → Int) : ∀ {xs : List α} {K : List Int} {R : List (Key × D) → Nat → Prop},
    (∀ x ∈ xs, ∀ Q : Except Er Bool → Nat → Prop, Q (.ok (p x)) b → c (δ.set i (some (.val (enc x)))) b Q) → (∀ x ∈ xs, p x = true → ∀ Q : Except Er D → Nat → Prop, Q (.ok (.int (F x))) b → ek (δ.set i (some (.val (enc x)))) b Q) →
    R (dks (addAll K ((xs.filter p).map F))) b → wDcomp (tgn i) c ek (wc (.bool true)) (xs.map enc) δ (dks K) b R
  | [], K, R, _, _, hr => hr
  | x :: xs, K, R, h1, h2, hr => by
    show c (δ.set i (some (.val (enc x)))) b _
    refine h1 x List.mem_cons_self _ ?_
    cases hp : p x with
    | false =>
      refine wDcomp_tc enc p F (fun y hy => h1 y (List.mem_cons_of_mem x hy)) (fun y hy => h2 y (List.mem_cons_of_mem x hy)) ?_
      rw [List.filter_cons, hp] at hr
      exact hr
    | true =>
      refine h2 x List.mem_cons_self hp _ ⟨.inl (F x), rfl, ?_⟩
      rw [dks_put]
      refine wDcomp_tc enc p F (fun y hy => h1 y (List.mem_cons_of_mem x hy)) (fun y hy => h2 y (List.mem_cons_of_mem x hy)) ?_
      rw [List.filter_cons, hp] at hr
      exact hr
theorem wDcomp_tn {α : Type} (enc : α → D) {i : Nat} {ek : Env → Wp D} {δ : Env} {b : Nat} (F : α → Int) {xs : List α} {R : List (Key × D) → Nat → Prop}
    (h : ∀ x ∈ xs, ∀ Q : Except Er D → Nat → Prop, Q (.ok (.int (F x))) b → ek (δ.set i (some (.val (enc x)))) b Q) (hr : R (dks (addAll [] (xs.map F))) b) : wDcomp (tgn i) wyes ek (wc (.bool true)) (xs.map enc) δ [] b R :=
  wDcomp_tc (K := []) enc (fun _ => true) F (fun x hx Q hq => hq) (fun x hx _ => h x hx) (by rw [List.filter_eq_self.2 fun _ _ => rfl]; exact hr)
end
section
variable {α : Type} {G : TgW} {s : SW} {R : Out → Nat → Prop}
theorem wFor_xk (enc : α → D) (I : List α → Env → Nat → Prop) (nil : ∀ δ b, I [] δ b → R (.nx δ) b)
    (step : ∀ (x : α) (xs : List α) (δ : Env) (b : Nat) (K : Env → Nat → Prop), I (x :: xs) δ b → (∀ δ' b', I xs δ' b' → K δ' b') → G (enc x) δ fun δ1 => s δ1 b (KW K R))
    {xs : List α} {δ : Env} {b : Nat} (h : I xs δ b) : wFor G s (xs.map enc) δ b R := wFor_xs enc I nil step h
theorem wFor_ek (enc : α → D) (I : Nat → List α → Env → Nat → Prop) (nil : ∀ i δ b, I i [] δ b → R (.nx δ) b)
    (step : ∀ (i : Nat) (x : α) (xs : List α) (δ : Env) (b : Nat) (K : Env → Nat → Prop), I i (x :: xs) δ b → (∀ δ' b', I (i + 1) xs δ' b' → K δ' b') → G (.tuple [.int i, enc x]) δ fun δ1 => s δ1 b (KW K R))
    {xs : List α} {δ : Env} {b : Nat} (h : I 0 xs δ b) : wFor G s (enumD 0 (xs.map enc)) δ b R := wFor_en enc I nil step h
theorem wComp_xk (enc : α → D) {c : Env → Wp Bool} {e : Env → Wp D} {δ : Env} {b : Nat} (p : α → Bool) (F : α → D) {xs : List α} {R : List D → Nat → Prop}
    (h : ∀ x ∈ xs, ∀ (Rf : Nat → Prop) (Rt : D → Nat → Prop), (p x = false → Rf b) → (p x = true → Rt (F x) b) → G (enc x) δ fun δ1 => c δ1 b (KCt e δ1 Rf Rt)) (hr : R ((xs.filter p).map F) b) : wComp G c e (xs.map enc) δ b R := wComp_xs enc p F h hr
theorem wComp_ak (enc : α → D) {e : Env → Wp D} {δ : Env} {b : Nat} (F : α → D) {xs : List α} {R : List D → Nat → Prop}
    (h : ∀ x ∈ xs, ∀ (Rt : D → Nat → Prop), Rt (F x) b → G (enc x) δ fun δ1 => e δ1 b (KCe Rt)) (hr : R (xs.map F) b) : wComp G wyes e (xs.map enc) δ b R := wComp_all enc F h hr
theorem wComp_dk {e : Env → Wp D} {δ : Env} (m : Nat) (Pd : D → D → Prop) {ds : List D} {b : Nat} {R : List D → Nat → Prop}
    (h : ∀ d ∈ ds, ∀ (b : Nat) (Rt : D → Nat → Prop), m ≤ b → (∀ y b', Pd d y → b ≤ b' + m → Rt y b') → G d δ fun δ1 => e δ1 b (KCe Rt)) (hb : ds.length * m ≤ b) (hr : ∀ ys b', Paired Pd ds ys → b ≤ b' + ds.length * m → R ys b') : wComp G wyes e ds δ b R := wComp_draw m Pd h hb hr
theorem k_comp_nil {c : Env → Wp Bool} {e : Env → Wp D} {δ : Env} {b : Nat} {R : List D → Nat → Prop} : wComp G c e [] δ b R = R [] b := id rfl
theorem k_comp_cons {c : Env → Wp Bool} {e : Env → Wp D} {δ : Env} {b : Nat} {d : D} {ds : List D} {R : List D → Nat → Prop} : wComp G c e (d :: ds) δ b R = G d δ fun δ1 => c δ1 b (KCt e δ1 (fun b1 => wComp G c e ds δ b1 R) (fun y b2 => wComp G c e ds δ b2 fun ys b3 => R (y :: ys) b3)) := by
  show G d δ _ = _
  congr 1
end
end BB
set_option Elab.async false
set_option linter.all false
set_option maxRecDepth 100000
set_option autoImplicit false
set_option maxHeartbeats 2000000
/-! k59: the walk. -/
namespace BB
open PySem PySem.Spec PyProof.Rows L2 HotX L2H
open PySem PySem.Spec PyProof.Rows L2
def top (i : Nat) : Stmt := PySem.Challenge.pw_beliefbend_k59_whole_big_steps.main.body.getD i (.Pass ⟨0, 0, 0, 0⟩)
/-- what the text has written -/
structure Hy (P : Program) (w : World) (K : PySem.W.Frag) (mg : Str → Option Value) (base : Heap) (C : Nat → Addr) : Prop where
  B : Blt mg
  er : ErrAll K mg C
  e0 : ErrC K mg "NotAllowed" (C 0)
  e1 : ErrC K mg "TooLarge" (C 1)
  e2 : ErrC K mg "Missing" (C 2)
  e3 : ErrC K mg "BadPaper" (C 3)
  c_MAX_RANK : ∃ t, mg "MAX_RANK" = some (.int 1000 t)
  c_MAX_STEPPED : ∃ t, mg "MAX_STEPPED" = some (.int 18 t)
  c_MAX_WEIGHT : ∃ t, mg "MAX_WEIGHT" = some (.int 1000000 t)
  c_MAX_WORLDS : ∃ t, mg "MAX_WORLDS" = some (.int 32 t)
variable {P : Program} {w : World} {K : PySem.W.Frag} {mg : Str → Option Value} {base : Heap} {C : Nat → Addr}
/-! check_many (level 1) -/
abbrev N_check_many : List Str := ["many"]
def b_check_many : SW := sseq (sif (wtest (wb2 wGt (wvarT 0) (wc (.int 32)))) (srs .tl) (snil))
  (sseq (sif (wtest (wb2 wLt (wvarT 0) (wc (.int 1)))) (srs .na) (snil))
  (sret (wc .none)))
theorem sc_check_many : FnScope N_check_many ["many"] (defScope (top 9)) := ⟨rfl, rfl, rfl, by decide +kernel, rfl, by decide +kernel, by decide +kernel⟩
theorem df_check_many (Y : Hy P w K mg base C) (Fe : FnIn K mg "check_many" (top 9)) {spec : Spec} (run : ∀ (cs : List Cell) (b : Nat) (R : Except Er D → Nat → Prop), spec cs b R → cs.length = 1 ∧ runB 1 (b_check_many) cs b R) :
    DfE P w K mg base (erV C) 1 "check_many" ["many"] spec := by
  refine dfe_of (N := N_check_many) (k := 0) Fe sc_check_many (fun f fd F => F.binds (ps := ["many"]) fun _ _ _ _ _ _ us hl => match us, hl with | [_], _ => rfl) (fun f S cdv A outer s H E hT G => ?_) run
  obtain ⟨K0, T0, on0, st0, nu0, ns0⟩ := S
  obtain rfl : T0 = erV C := hT
  exact ssx_cons (sx_if (bx_gt (et_var (pv 0)) (EX.t (ex_giE Y.c_MAX_WORLDS))) (ssx_one (sx_raise G Y.e1 rfl)) (ssx_nil))
    (ssx_cons (sx_if (bx_lt (et_var (pv 0)) (EX.t (ex_int))) (ssx_one (sx_raise G Y.e0 rfl)) (ssx_nil))
    (ssx_one (sx_ret (ex_non))))
/-! check_set (level 2) -/
abbrev N_check_set : List Str := ["many", "one"]
def b_check_set (s_check_many : Spec) : SW := sseq (sdrop (wcall (wconsC (warg (wvar 0)) (wnilC)) s_check_many))
  (sseq (sif (wor (wtest (wb2 wLt (wvarT 1) (wc (.int 0)))) (wtest (wb2 wGe (wvarT 1) (wb2 wShl (wc (.int 1)) (wvarT 0))))) (srs .na) (snil))
  (sret (wc .none)))
theorem sc_check_set : FnScope N_check_set ["many", "one"] (defScope (top 10)) := ⟨rfl, rfl, rfl, by decide +kernel, rfl, by decide +kernel, by decide +kernel⟩
theorem df_check_set (Y : Hy P w K mg base C) {s_check_many : Spec} (h_check_many : DfE P w K mg base (erV C) 1 "check_many" ["many"] s_check_many) (Fe : FnIn K mg "check_set" (top 10)) {spec : Spec} (run : ∀ (cs : List Cell) (b : Nat) (R : Except Er D → Nat → Prop), spec cs b R → cs.length = 2 ∧ runB 2 (b_check_set s_check_many) cs b R) :
    DfE P w K mg base (erV C) 2 "check_set" ["many", "one"] spec := by
  refine dfe_of (N := N_check_set) (k := 1) Fe sc_check_set (fun f fd F => F.binds (ps := ["many", "one"]) fun _ _ _ _ _ _ us hl => match us, hl with | [_, _], _ => rfl) (fun f S cdv A outer s H E hT G => ?_) run
  obtain ⟨K0, T0, on0, st0, nu0, ns0⟩ := S
  obtain rfl : T0 = erV C := hT
  exact ssx_cons (sx_expr (ex_callE G h_check_many (by decide) (ax_cons (EX.arg (ex_var (pv 0))) (ax_nil))))
    (ssx_cons (sx_if (BW.x (bw_or (bx_lt (et_var (pv 1)) (EX.t (ex_int))) (bw_or1 (bx_ge (et_var (pv 1)) (EX.t (ex_shl (EX.t (ex_int)) (et_var (pv 0)))))))) (ssx_one (sx_raise G Y.e0 rfl)) (ssx_nil))
    (ssx_one (sx_ret (ex_non))))
/-! members (level 1) -/
abbrev N_members : List Str := ["one", "found", "world"]
def b_members : SW := sseq (sasgF 1 (wlis (wnil)))
  (sseq (sasg 2 (wc (.int 0)))
  (sseq (swhile (wtest (wb2 wGt (wb2 wShr (wvarT 0) (wvarT 2)) (wc (.int 0))))
    (sseq (sif (fun δ => wbind ((wb2 wAnd (wb2 wShr (wvarT 0) (wvarT 2)) (wc (.int 1))) δ) wtru) (sapp 1 (wvar 2)) (snil))
  (saug 2 (fun i j => i + j) (wc (.int 1)))))
  (sret (wk kTuple (wvarT 1)))))
theorem sc_members : FnScope N_members ["one"] (defScope (top 11)) := ⟨rfl, rfl, rfl, by decide +kernel, rfl, by decide +kernel, by decide +kernel⟩
theorem df_members (Y : Hy P w K mg base C) (Fe : FnIn K mg "members" (top 11)) {spec : Spec} (run : ∀ (cs : List Cell) (b : Nat) (R : Except Er D → Nat → Prop), spec cs b R → cs.length = 1 ∧ runB 3 (b_members) cs b R) :
    DfE P w K mg base (erV C) 1 "members" ["one"] spec := by
  refine dfe_of (N := N_members) (k := 0) Fe sc_members (fun f fd F => F.binds (ps := ["one"]) fun _ _ _ _ _ _ us hl => match us, hl with | [_], _ => rfl) (fun f S cdv A outer s H E hT G => ?_) run
  obtain ⟨K0, T0, on0, st0, nu0, ns0⟩ := S
  obtain rfl : T0 = erV C := hT
  exact ssx_cons (sx_asgF (i := 1) G.nd rfl (.inl rfl) (ef_lst (lx_nil)))
    (ssx_cons (sx_asg (i := 2) G.nd rfl (.inl rfl) (ex_int))
    (ssx_cons (sx_while G (bx_gt (EX.t (ex_shr (et_var (pv 0)) (et_var (pv 2)))) (EX.t (ex_int))) (ssx_cons (sx_if (bx_tru (EX.t (ex_and (EX.t (ex_shr (et_var (pv 0)) (et_var (pv 2)))) (EX.t (ex_int))))) (ssx_one (sx_app (i := 1) (pv 1) (ex_var (pv 2)))) (ssx_nil))
    (ssx_one (sx_aug (g := fun i j => i + j) iop_add G.nd rfl (.inl rfl) (ex_int)))))
    (ssx_one (sx_ret (ex_tuple Y.B.tuple (et_var (pv 1)))))))
/-! check_weights (level 2) -/
abbrev N_check_weights : List Str := ["many", "weights"]
def b_check_weights (s_check_many : Spec) : SW := sseq (sdrop (wcall (wconsC (warg (wvar 0)) (wnilC)) s_check_many))
  (sseq (sif (wor (wtest (wb2 wNe (wk kLen (wvarT 1)) (wvarT 0))) (wor (wtest (wb2 wLt (wk kMinX (wvarT 1)) (wc (.int 0)))) (wor (wtest (wb2 wGt (wk kMaxX (wvarT 1)) (wc (.int 1000000)))) (wtest (wb2 wEq (wk kMaxX (wvarT 1)) (wc (.int 0))))))) (srs .na) (snil))
  (sret (wc .none)))
theorem sc_check_weights : FnScope N_check_weights ["many", "weights"] (defScope (top 14)) := ⟨rfl, rfl, rfl, by decide +kernel, rfl, by decide +kernel, by decide +kernel⟩
theorem df_check_weights (Y : Hy P w K mg base C) {s_check_many : Spec} (h_check_many : DfE P w K mg base (erV C) 1 "check_many" ["many"] s_check_many) (Fe : FnIn K mg "check_weights" (top 14)) {spec : Spec} (run : ∀ (cs : List Cell) (b : Nat) (R : Except Er D → Nat → Prop), spec cs b R → cs.length = 2 ∧ runB 2 (b_check_weights s_check_many) cs b R) :
    DfE P w K mg base (erV C) 2 "check_weights" ["many", "weights"] spec := by
  refine dfe_of (N := N_check_weights) (k := 1) Fe sc_check_weights (fun f fd F => F.binds (ps := ["many", "weights"]) fun _ _ _ _ _ _ us hl => match us, hl with | [_, _], _ => rfl) (fun f S cdv A outer s H E hT G => ?_) run
  obtain ⟨K0, T0, on0, st0, nu0, ns0⟩ := S
  obtain rfl : T0 = erV C := hT
  exact ssx_cons (sx_expr (ex_callE G h_check_many (by decide) (ax_cons (EX.arg (ex_var (pv 0))) (ax_nil))))
    (ssx_cons (sx_if (BW.x (bw_or (bx_ne G (EX.t (ex_len Y.B.len (et_var (pv 1)))) (et_var (pv 0))) (bw_or (bx_lt (EX.t (ex_minX G Y.B.min (et_var (pv 1)))) (EX.t (ex_int))) (bw_or (bx_gt (EX.t (ex_maxX G Y.B.max (et_var (pv 1)))) (EX.t (ex_giE Y.c_MAX_WEIGHT))) (bw_or1 (bx_eq G (EX.t (ex_maxX G Y.B.max (et_var (pv 1)))) (EX.t (ex_int)))))))) (ssx_one (sx_raise G Y.e0 rfl)) (ssx_nil))
    (ssx_one (sx_ret (ex_non))))
/-! sum_of (level 2) -/
abbrev N_sum_of : List Str := ["weights", "one", "world"]
def b_sum_of (s_members : Spec) : SW := sret (wk kSum (wlst (wlc (witems (wcall (wconsC (warg (wvar 1)) (wnilC)) s_members)) [2] (tgn 2) (wyes) (wb2 wIx (wvarT 0) (wvarT 2)))))
theorem sc_sum_of : FnScope N_sum_of ["weights", "one"] (defScope (top 15)) := ⟨rfl, rfl, rfl, by decide +kernel, rfl, by decide +kernel, by decide +kernel⟩
theorem df_sum_of (Y : Hy P w K mg base C) {s_members : Spec} (h_members : DfE P w K mg base (erV C) 1 "members" ["one"] s_members) (Fe : FnIn K mg "sum_of" (top 15)) {spec : Spec} (run : ∀ (cs : List Cell) (b : Nat) (R : Except Er D → Nat → Prop), spec cs b R → cs.length = 2 ∧ runB 3 (b_sum_of s_members) cs b R) :
    DfE P w K mg base (erV C) 2 "sum_of" ["weights", "one"] spec := by
  refine dfe_of (N := N_sum_of) (k := 1) Fe sc_sum_of (fun f fd F => F.binds (ps := ["weights", "one"]) fun _ _ _ _ _ _ us hl => match us, hl with | [_, _], _ => rfl) (fun f S cdv A outer s H E hT G => ?_) run
  obtain ⟨K0, T0, on0, st0, nu0, ns0⟩ := S
  obtain rfl : T0 = erV C := hT
  exact ssx_one (sx_ret (ex_sum G Y.B.sum (EF.t (ef_lc G (own := [("world", 2)]) rfl (ix_anyT (EX.t (ex_callE G h_members (by decide) (ax_cons (EX.arg (ex_var (pv 1))) (ax_nil))))) (blkOk_by (by kernel_rfl)) (fun _ _ _ _ _ => gx_name G.blk.nd rfl (by first | exact .inl rfl | exact .inr rfl)) (fun _ _ _ _ _ => tx_nil) (fun _ _ _ _ _ => ex_ix (et_var (pv 0)) (et_var (pv 2)))))))
/-! check_ranks (level 2) -/
abbrev N_check_ranks : List Str := ["many", "ranks"]
def b_check_ranks (s_check_many : Spec) : SW := sseq (sdrop (wcall (wconsC (warg (wvar 0)) (wnilC)) s_check_many))
  (sseq (sif (wor (wtest (wb2 wNe (wk kLen (wvarT 1)) (wvarT 0))) (wor (wtest (wb2 wNe (wk kMinX (wvarT 1)) (wc (.int 0)))) (wtest (wb2 wGt (wk kMaxX (wvarT 1)) (wc (.int 1000)))))) (srs .na) (snil))
  (sret (wc .none)))
theorem sc_check_ranks : FnScope N_check_ranks ["many", "ranks"] (defScope (top 18)) := ⟨rfl, rfl, rfl, by decide +kernel, rfl, by decide +kernel, by decide +kernel⟩
theorem df_check_ranks (Y : Hy P w K mg base C) {s_check_many : Spec} (h_check_many : DfE P w K mg base (erV C) 1 "check_many" ["many"] s_check_many) (Fe : FnIn K mg "check_ranks" (top 18)) {spec : Spec} (run : ∀ (cs : List Cell) (b : Nat) (R : Except Er D → Nat → Prop), spec cs b R → cs.length = 2 ∧ runB 2 (b_check_ranks s_check_many) cs b R) :
    DfE P w K mg base (erV C) 2 "check_ranks" ["many", "ranks"] spec := by
  refine dfe_of (N := N_check_ranks) (k := 1) Fe sc_check_ranks (fun f fd F => F.binds (ps := ["many", "ranks"]) fun _ _ _ _ _ _ us hl => match us, hl with | [_, _], _ => rfl) (fun f S cdv A outer s H E hT G => ?_) run
  obtain ⟨K0, T0, on0, st0, nu0, ns0⟩ := S
  obtain rfl : T0 = erV C := hT
  exact ssx_cons (sx_expr (ex_callE G h_check_many (by decide) (ax_cons (EX.arg (ex_var (pv 0))) (ax_nil))))
    (ssx_cons (sx_if (BW.x (bw_or (bx_ne G (EX.t (ex_len Y.B.len (et_var (pv 1)))) (et_var (pv 0))) (bw_or (bx_ne G (EX.t (ex_minX G Y.B.min (et_var (pv 1)))) (EX.t (ex_int))) (bw_or1 (bx_gt (EX.t (ex_maxX G Y.B.max (et_var (pv 1)))) (EX.t (ex_giE Y.c_MAX_RANK))))))) (ssx_one (sx_raise G Y.e0 rfl)) (ssx_nil))
    (ssx_one (sx_ret (ex_non))))
/-! least_of (level 2) -/
abbrev N_least_of : List Str := ["ranks", "one", "worlds", "best", "world"]
def b_least_of (s_members : Spec) : SW := sseq (sasg 2 (wcall (wconsC (warg (wvar 1)) (wnilC)) s_members))
  (sseq (sif (wtest (wb2 wEq (wk kLen (wvarT 2)) (wc (.int 0)))) (sret (wc (.int 0))) (snil))
  (sseq (sasg 3 (wk kMin (wlst (wlc (witems (wvarT 2)) [4] (tgn 4) (wyes) (wb2 wIx (wvarT 0) (wvarT 4))))))
  (sret (wk kSum (wlst (wlc (witems (wvarT 2)) [4] (tgn 4) (wtest (wb2 wEq (wb2 wIx (wvarT 0) (wvarT 4)) (wvarT 3))) (wb2 wShl (wc (.int 1)) (wvarT 4))))))))
theorem sc_least_of : FnScope N_least_of ["ranks", "one"] (defScope (top 19)) := ⟨rfl, rfl, rfl, by decide +kernel, rfl, by decide +kernel, by decide +kernel⟩
theorem df_least_of (Y : Hy P w K mg base C) {s_members : Spec} (h_members : DfE P w K mg base (erV C) 1 "members" ["one"] s_members) (Fe : FnIn K mg "least_of" (top 19)) {spec : Spec} (run : ∀ (cs : List Cell) (b : Nat) (R : Except Er D → Nat → Prop), spec cs b R → cs.length = 2 ∧ runB 5 (b_least_of s_members) cs b R) :
    DfE P w K mg base (erV C) 2 "least_of" ["ranks", "one"] spec := by
  refine dfe_of (N := N_least_of) (k := 1) Fe sc_least_of (fun f fd F => F.binds (ps := ["ranks", "one"]) fun _ _ _ _ _ _ us hl => match us, hl with | [_, _], _ => rfl) (fun f S cdv A outer s H E hT G => ?_) run
  obtain ⟨K0, T0, on0, st0, nu0, ns0⟩ := S
  obtain rfl : T0 = erV C := hT
  exact ssx_cons (sx_asg (i := 2) G.nd rfl (.inl rfl) (ex_callE G h_members (by decide) (ax_cons (EX.arg (ex_var (pv 1))) (ax_nil))))
    (ssx_cons (sx_if (bx_eq G (EX.t (ex_len Y.B.len (et_var (pv 2)))) (EX.t (ex_int))) (ssx_one (sx_ret (ex_int))) (ssx_nil))
    (ssx_cons (sx_asg (i := 3) G.nd rfl (.inr rfl) (ex_min G Y.B.min (EF.t (ef_lc G (own := [("world", 4)]) rfl (ix_anyT (et_var (pv 2))) (blkOk_by (by kernel_rfl)) (fun _ _ _ _ _ => gx_name G.blk.nd rfl (by first | exact .inl rfl | exact .inr rfl)) (fun _ _ _ _ _ => tx_nil) (fun _ _ _ _ _ => ex_ix (et_var (pv 0)) (et_var (pv 4)))))))
    (ssx_one (sx_ret (ex_sum G Y.B.sum (EF.t (ef_lc G (own := [("world", 4)]) rfl (ix_anyT (et_var (pv 2))) (blkOk_by (by kernel_rfl)) (fun _ _ _ _ _ => gx_name G.blk.nd rfl (by first | exact .inl rfl | exact .inr rfl)) (fun _ _ _ _ _ => tx_one (bx_eq G.blk (EX.t (ex_ix (et_var (pv 0)) (et_var (pv 4)))) (et_var (pv 3)))) (fun _ _ _ _ _ => ex_shl (EX.t (ex_int)) (et_var (pv 4))))))))))
/-! accepts (level 3) -/
abbrev N_accepts : List Str := ["many", "weights", "one", "other"]
def b_accepts (s_check_weights s_check_set s_sum_of : Spec) : SW := sseq (sdrop (wcall (wconsC (warg (wvar 0)) (wconsC (warg (wvar 1)) (wnilC))) s_check_weights))
  (sseq (sdrop (wcall (wconsC (warg (wvar 0)) (wconsC (warg (wvar 2)) (wnilC))) s_check_set))
  (sseq (sdrop (wcall (wconsC (warg (wvar 0)) (wconsC (warg (wvar 3)) (wnilC))) s_check_set))
  (sret (wb2 wGt (wcall (wconsC (warg (wvar 1)) (wconsC (warg (wb2 wAnd (wvarT 3) (wvarT 2))) (wnilC))) s_sum_of) (wcall (wconsC (warg (wvar 1)) (wconsC (warg (wb2 wAnd (wvarT 3) (wb1 (wI1 Builtin.bitNot) (wvarT 2)))) (wnilC))) s_sum_of)))))
theorem sc_accepts : FnScope N_accepts ["many", "weights", "one", "other"] (defScope (top 22)) := ⟨rfl, rfl, rfl, by decide +kernel, rfl, by decide +kernel, by decide +kernel⟩
theorem df_accepts (Y : Hy P w K mg base C) {s_check_weights s_check_set s_sum_of : Spec} (h_check_weights : DfE P w K mg base (erV C) 2 "check_weights" ["many", "weights"] s_check_weights) (h_check_set : DfE P w K mg base (erV C) 2 "check_set" ["many", "one"] s_check_set) (h_sum_of : DfE P w K mg base (erV C) 2 "sum_of" ["weights", "one"] s_sum_of) (Fe : FnIn K mg "accepts" (top 22)) {spec : Spec} (run : ∀ (cs : List Cell) (b : Nat) (R : Except Er D → Nat → Prop), spec cs b R → cs.length = 4 ∧ runB 4 (b_accepts s_check_weights s_check_set s_sum_of) cs b R) :
    DfE P w K mg base (erV C) 3 "accepts" ["many", "weights", "one", "other"] spec := by
  refine dfe_of (N := N_accepts) (k := 2) Fe sc_accepts (fun f fd F => F.binds (ps := ["many", "weights", "one", "other"]) fun _ _ _ _ _ _ us hl => match us, hl with | [_, _, _, _], _ => rfl) (fun f S cdv A outer s H E hT G => ?_) run
  obtain ⟨K0, T0, on0, st0, nu0, ns0⟩ := S
  obtain rfl : T0 = erV C := hT
  exact ssx_cons (sx_expr (ex_callE G h_check_weights (by decide) (ax_cons (EX.arg (ex_var (pv 0))) (ax_cons (EX.arg (ex_var (pv 1))) (ax_nil)))))
    (ssx_cons (sx_expr (ex_callE G h_check_set (by decide) (ax_cons (EX.arg (ex_var (pv 0))) (ax_cons (EX.arg (ex_var (pv 2))) (ax_nil)))))
    (ssx_cons (sx_expr (ex_callE G h_check_set (by decide) (ax_cons (EX.arg (ex_var (pv 0))) (ax_cons (EX.arg (ex_var (pv 3))) (ax_nil)))))
    (ssx_one (sx_ret (ex_gt (EX.t (ex_callE G h_sum_of (by decide) (ax_cons (EX.arg (ex_var (pv 1))) (ax_cons (EX.arg (ex_and (et_var (pv 3)) (et_var (pv 2)))) (ax_nil))))) (EX.t (ex_callE G h_sum_of (by decide) (ax_cons (EX.arg (ex_var (pv 1))) (ax_cons (EX.arg (ex_and (et_var (pv 3)) (EX.t (ex_inv (et_var (pv 2)))))) (ax_nil))))))))))
/-! has_big_steps (level 3) -/
abbrev N_has_big_steps : List Str := ["many", "weights", "row", "weight", "total"]
def b_has_big_steps (s_check_weights : Spec) : SW := sseq (sdrop (wcall (wconsC (warg (wvar 0)) (wconsC (warg (wvar 1)) (wnilC))) s_check_weights))
  (sseq (sasgF 2 (wk kSorted (wlst (wlc (witems (wvarT 1)) [3] (tgn 3) (wtest (wb2 wGt (wvarT 3) (wc (.int 0)))) (wvar 3)))))
  (sseq (sasg 4 (wc (.int 0)))
  (sseq (sfrz 2 (sfor (witems (wvar 2)) (tgn 3)
    (sseq (sif (wtest (wb2 wLe (wvarT 3) (wvarT 4))) (sret (wc (.bool false))) (snil))
  (saug 4 (fun i j => i + j) (wvar 3)))))
  (sret (wc (.bool true))))))
theorem sc_has_big_steps : FnScope N_has_big_steps ["many", "weights"] (defScope (top 23)) := ⟨rfl, rfl, rfl, by decide +kernel, rfl, by decide +kernel, by decide +kernel⟩
theorem df_has_big_steps (Y : Hy P w K mg base C) {s_check_weights : Spec} (h_check_weights : DfE P w K mg base (erV C) 2 "check_weights" ["many", "weights"] s_check_weights) (Fe : FnIn K mg "has_big_steps" (top 23)) {spec : Spec} (run : ∀ (cs : List Cell) (b : Nat) (R : Except Er D → Nat → Prop), spec cs b R → cs.length = 2 ∧ runB 5 (b_has_big_steps s_check_weights) cs b R) :
    DfE P w K mg base (erV C) 3 "has_big_steps" ["many", "weights"] spec := by
  refine dfe_of (N := N_has_big_steps) (k := 2) Fe sc_has_big_steps (fun f fd F => F.binds (ps := ["many", "weights"]) fun _ _ _ _ _ _ us hl => match us, hl with | [_, _], _ => rfl) (fun f S cdv A outer s H E hT G => ?_) run
  obtain ⟨K0, T0, on0, st0, nu0, ns0⟩ := S
  obtain rfl : T0 = erV C := hT
  exact ssx_cons (sx_expr (ex_callE G h_check_weights (by decide) (ax_cons (EX.arg (ex_var (pv 0))) (ax_cons (EX.arg (ex_var (pv 1))) (ax_nil)))))
    (ssx_cons (sx_asgF (i := 2) G.nd rfl (.inl rfl) (ef_sorted Y.B.sorted (EF.t (ef_lc G (own := [("weight", 3)]) rfl (ix_anyT (et_var (pv 1))) (blkOk_by (by kernel_rfl)) (fun _ _ _ _ _ => gx_name G.blk.nd rfl (by first | exact .inl rfl | exact .inr rfl)) (fun _ _ _ _ _ => tx_one (bx_gt (et_var (pv 3)) (EX.t (ex_int)))) (fun _ _ _ _ _ => ex_var (pv 3))))))
    (ssx_cons (sx_asg (i := 4) G.nd rfl (.inl rfl) (ex_int))
    (ssx_cons (sx_frz 2 (sx_for G (ix_any (ex_var (pv 2))) (gx_name G.nd rfl (by first | exact .inl rfl | exact .inr rfl)) (ssx_cons (sx_if (bx_le (et_var (pv 3)) (et_var (pv 4))) (ssx_one (sx_ret (ex_bl))) (ssx_nil))
    (ssx_one (sx_aug (g := fun i j => i + j) iop_add G.nd rfl (.inl rfl) (ex_var (pv 3)))))))
    (ssx_one (sx_ret (ex_bl))))))
/-! closes (level 4) -/
abbrev N_closes : List Str := ["many", "weights", "other"]
def b_closes (s_check_weights s_sum_of s_closes_under : Spec) : SW := sseq (sdrop (wcall (wconsC (warg (wvar 0)) (wconsC (warg (wvar 1)) (wnilC))) s_check_weights))
  (sseq (sif (wtest (wb2 wGt (wvarT 0) (wc (.int 6)))) (srs .tl) (snil))
  (sret (wk kAll (wlst (wlc (wk kRange2 (wcons (wc (.int 1)) (wcons (wb2 wShl (wc (.int 1)) (wvarT 0)) (wnil)))) [2] (tgn 2) (wtest (wb2 wGt (wcall (wconsC (warg (wvar 1)) (wconsC (warg (wvar 2)) (wnilC))) s_sum_of) (wc (.int 0)))) (wcall (wconsC (warg (wvar 1)) (wconsC (warg (wvar 2)) (wnilC))) s_closes_under))))))
theorem sc_closes : FnScope N_closes ["many", "weights"] (defScope (top 24)) := ⟨rfl, rfl, rfl, by decide +kernel, rfl, by decide +kernel, by decide +kernel⟩
theorem df_closes (Y : Hy P w K mg base C) {s_check_weights s_sum_of s_closes_under : Spec} (h_check_weights : DfE P w K mg base (erV C) 2 "check_weights" ["many", "weights"] s_check_weights) (h_sum_of : DfE P w K mg base (erV C) 2 "sum_of" ["weights", "one"] s_sum_of) (h_closes_under : DfE P w K mg base (erV C) 3 "closes_under" ["weights", "other"] s_closes_under) (Fe : FnIn K mg "closes" (top 24)) {spec : Spec} (run : ∀ (cs : List Cell) (b : Nat) (R : Except Er D → Nat → Prop), spec cs b R → cs.length = 2 ∧ runB 3 (b_closes s_check_weights s_sum_of s_closes_under) cs b R) :
    DfE P w K mg base (erV C) 4 "closes" ["many", "weights"] spec := by
  refine dfe_of (N := N_closes) (k := 3) Fe sc_closes (fun f fd F => F.binds (ps := ["many", "weights"]) fun _ _ _ _ _ _ us hl => match us, hl with | [_, _], _ => rfl) (fun f S cdv A outer s H E hT G => ?_) run
  obtain ⟨K0, T0, on0, st0, nu0, ns0⟩ := S
  obtain rfl : T0 = erV C := hT
  exact ssx_cons (sx_expr (ex_callE G h_check_weights (by decide) (ax_cons (EX.arg (ex_var (pv 0))) (ax_cons (EX.arg (ex_var (pv 1))) (ax_nil)))))
    (ssx_cons (sx_if (bx_gt (et_var (pv 0)) (EX.t (ex_int))) (ssx_one (sx_raise G Y.e1 rfl)) (ssx_nil))
    (ssx_one (sx_ret (ex_all G Y.B.all (EF.t (ef_lc G (own := [("other", 2)]) rfl (IX.c (ix_range2 Y.B.range (lx_cons (ex_int) (lx_cons (ex_shl (EX.t (ex_int)) (et_var (pv 0))) (lx_nil))))) (blkOk_by (by kernel_rfl)) (fun _ _ _ _ _ => gx_name G.blk.nd rfl (by first | exact .inl rfl | exact .inr rfl)) (fun _ _ _ _ _ => tx_one (bx_gt (EX.t (ex_callE G.blk h_sum_of (by decide) (ax_cons (EX.arg (ex_var (pv 1))) (ax_cons (EX.arg (ex_var (pv 2))) (ax_nil))))) (EX.t (ex_int)))) (fun _ _ _ _ _ => ex_callE G.blk h_closes_under (by decide) (ax_cons (EX.arg (ex_var (pv 1))) (ax_cons (EX.arg (ex_var (pv 2))) (ax_nil))))))))))
/-! closes_under (level 3) -/
abbrev N_closes_under : List Str := ["weights", "other", "whole", "world"]
def b_closes_under (s_sum_of s_members : Spec) : SW := sseq (sasg 2 (wcall (wconsC (warg (wvar 0)) (wconsC (warg (wvar 1)) (wnilC))) s_sum_of))
  (sret (wb2 wGt (wb2 wMulT (wc (.int 2)) (wk kSum (wlst (wlc (witems (wcall (wconsC (warg (wvar 1)) (wnilC)) s_members)) [3] (tgn 3) (wtest (wb2 wGe (wb2 wMulT (wc (.int 2)) (wb2 wIx (wvarT 0) (wvarT 3))) (wvarT 2))) (wb2 wIx (wvarT 0) (wvarT 3)))))) (wvarT 2)))
theorem sc_closes_under : FnScope N_closes_under ["weights", "other"] (defScope (top 25)) := ⟨rfl, rfl, rfl, by decide +kernel, rfl, by decide +kernel, by decide +kernel⟩
theorem df_closes_under (Y : Hy P w K mg base C) {s_sum_of s_members : Spec} (h_sum_of : DfE P w K mg base (erV C) 2 "sum_of" ["weights", "one"] s_sum_of) (h_members : DfE P w K mg base (erV C) 1 "members" ["one"] s_members) (Fe : FnIn K mg "closes_under" (top 25)) {spec : Spec} (run : ∀ (cs : List Cell) (b : Nat) (R : Except Er D → Nat → Prop), spec cs b R → cs.length = 2 ∧ runB 4 (b_closes_under s_sum_of s_members) cs b R) :
    DfE P w K mg base (erV C) 3 "closes_under" ["weights", "other"] spec := by
  refine dfe_of (N := N_closes_under) (k := 2) Fe sc_closes_under (fun f fd F => F.binds (ps := ["weights", "other"]) fun _ _ _ _ _ _ us hl => match us, hl with | [_, _], _ => rfl) (fun f S cdv A outer s H E hT G => ?_) run
  obtain ⟨K0, T0, on0, st0, nu0, ns0⟩ := S
  obtain rfl : T0 = erV C := hT
  exact ssx_cons (sx_asg (i := 2) G.nd rfl (.inr rfl) (ex_callE G h_sum_of (by decide) (ax_cons (EX.arg (ex_var (pv 0))) (ax_cons (EX.arg (ex_var (pv 1))) (ax_nil)))))
    (ssx_one (sx_ret (ex_gt (EX.t (ex_mulT (EX.t (ex_int)) (EX.t (ex_sum G Y.B.sum (EF.t (ef_lc G (own := [("world", 3)]) rfl (ix_anyT (EX.t (ex_callE G h_members (by decide) (ax_cons (EX.arg (ex_var (pv 1))) (ax_nil))))) (blkOk_by (by kernel_rfl)) (fun _ _ _ _ _ => gx_name G.blk.nd rfl (by first | exact .inl rfl | exact .inr rfl)) (fun _ _ _ _ _ => tx_one (bx_ge (EX.t (ex_mulT (EX.t (ex_int)) (EX.t (ex_ix (et_var (pv 0)) (et_var (pv 3)))))) (et_var (pv 2)))) (fun _ _ _ _ _ => ex_ix (et_var (pv 0)) (et_var (pv 3))))))))) (et_var (pv 2)))))
/-! parting_sets (level 3) -/
abbrev N_parting_sets : List Str := ["many", "weights", "other", "half", "accepted", "one", "more"]
def b_parting_sets (s_check_weights s_sum_of : Spec) : SW := sseq (sdrop (wcall (wconsC (warg (wvar 0)) (wconsC (warg (wvar 1)) (wnilC))) s_check_weights))
  (sseq (sif (wtest (wb2 wGt (wvarT 0) (wc (.int 6)))) (srs .tl) (snil))
  (sseq (sfor (wk kRange2 (wcons (wc (.int 1)) (wcons (wb2 wShl (wc (.int 1)) (wvarT 0)) (wnil)))) (tgn 2)
    (sseq (sasg 3 (wcall (wconsC (warg (wvar 1)) (wconsC (warg (wvar 2)) (wnilC))) s_sum_of))
  (sseq (sasgD 4 (wdc (wk kRange1 (wcons (wb2 wShl (wc (.int 1)) (wvarT 0)) (wnil))) [5] (tgn 5) (wand (wtest (wb2 wEq (wb2 wAnd (wvarT 5) (wb1 (wI1 Builtin.bitNot) (wvarT 2))) (wc (.int 0)))) (wtest (wb2 wGt (wb2 wMulT (wc (.int 2)) (wcall (wconsC (warg (wvar 1)) (wconsC (warg (wvar 5)) (wnilC))) s_sum_of)) (wvarT 3)))) (wvar 5) (wc (.bool true))))
  (slock 4 (sfor (wkeysL 4) (tgn 5)
    (sfor (wkeysL 4) (tgn 6)
    (sif (wdinL true 4 (wb2 wAnd (wvarT 5) (wvarT 6))) (sret (wtup (wcons (wvar 5) (wcons (wvar 6) (wcons (wvar 2) (wnil)))))) (snil))))))))
  (srs .ms)))
theorem sc_parting_sets : FnScope N_parting_sets ["many", "weights"] (defScope (top 26)) := ⟨rfl, rfl, rfl, by decide +kernel, rfl, by decide +kernel, by decide +kernel⟩
theorem df_parting_sets (Y : Hy P w K mg base C) {s_check_weights s_sum_of : Spec} (h_check_weights : DfE P w K mg base (erV C) 2 "check_weights" ["many", "weights"] s_check_weights) (h_sum_of : DfE P w K mg base (erV C) 2 "sum_of" ["weights", "one"] s_sum_of) (Fe : FnIn K mg "parting_sets" (top 26)) {spec : Spec} (run : ∀ (cs : List Cell) (b : Nat) (R : Except Er D → Nat → Prop), spec cs b R → cs.length = 2 ∧ runB 7 (b_parting_sets s_check_weights s_sum_of) cs b R) :
    DfE P w K mg base (erV C) 3 "parting_sets" ["many", "weights"] spec := by
  refine dfe_of (N := N_parting_sets) (k := 2) Fe sc_parting_sets (fun f fd F => F.binds (ps := ["many", "weights"]) fun _ _ _ _ _ _ us hl => match us, hl with | [_, _], _ => rfl) (fun f S cdv A outer s H E hT G => ?_) run
  obtain ⟨K0, T0, on0, st0, nu0, ns0⟩ := S
  obtain rfl : T0 = erV C := hT
  exact ssx_cons (sx_expr (ex_callE G h_check_weights (by decide) (ax_cons (EX.arg (ex_var (pv 0))) (ax_cons (EX.arg (ex_var (pv 1))) (ax_nil)))))
    (ssx_cons (sx_if (bx_gt (et_var (pv 0)) (EX.t (ex_int))) (ssx_one (sx_raise G Y.e1 rfl)) (ssx_nil))
    (ssx_cons (sx_for G (ix_range2 Y.B.range (lx_cons (ex_int) (lx_cons (ex_shl (EX.t (ex_int)) (et_var (pv 0))) (lx_nil)))) (gx_name G.nd rfl (by first | exact .inl rfl | exact .inr rfl)) (ssx_cons (sx_asg (i := 3) G.nd rfl (.inr rfl) (ex_callE G h_sum_of (by decide) (ax_cons (EX.arg (ex_var (pv 1))) (ax_cons (EX.arg (ex_var (pv 2))) (ax_nil)))))
    (ssx_cons (sx_asgDc G (own := [("one", 5)]) rfl (i := 4) rfl rfl (sw_trueD rfl rfl rfl (by decide +kernel)) (IX.c (ix_range1 Y.B.range (lx_cons (ex_shl (EX.t (ex_int)) (et_var (pv 0))) (lx_nil)))) (blkOk_by (by kernel_rfl)) (fun _ _ _ _ _ => gx_name G.blk.nd rfl (by first | exact .inl rfl | exact .inr rfl)) (fun _ _ _ _ _ => tx_one (BW.x (bw_and (bx_eq G.blk (EX.t (ex_and (et_var (pv 5)) (EX.t (ex_inv (et_var (pv 2)))))) (EX.t (ex_int))) (bw_and1 (bx_gt (EX.t (ex_mulT (EX.t (ex_int)) (EX.t (ex_callE G.blk h_sum_of (by decide) (ax_cons (EX.arg (ex_var (pv 1))) (ax_cons (EX.arg (ex_var (pv 5))) (ax_nil))))))) (et_var (pv 3))))))) (fun _ _ _ _ _ => ex_var (pv 5)) (fun _ _ _ _ _ => ex_bl))
    (ssx_one (sx_lock (i := 4) (sx_for G (ix_lk (i := 4) (pv 4)) (gx_name G.nd rfl (by first | exact .inl rfl | exact .inr rfl)) (ssx_one (sx_for G (ix_lk (i := 4) (pv 4)) (gx_name G.nd rfl (by first | exact .inl rfl | exact .inr rfl)) (ssx_one (sx_if (bx_dnotinL (i := 4) G (ex_and (et_var (pv 5)) (et_var (pv 6))) (pv 4)) (ssx_one (sx_ret (ex_tup (lx_cons (ex_var (pv 5)) (lx_cons (ex_var (pv 6)) (lx_cons (ex_var (pv 2)) (lx_nil))))))) (ssx_nil)))))))))))
    (ssx_one (sx_raise G Y.e2 rfl))))
/-! stepped_weights (level 3) -/
abbrev N_stepped_weights : List Str := ["many", "ranks", "order", "rank"]
def b_stepped_weights (s_check_ranks : Spec) : SW := sseq (sdrop (wcall (wconsC (warg (wvar 0)) (wconsC (warg (wvar 1)) (wnilC))) s_check_ranks))
  (sseq (sif (wtest (wb2 wGt (wvarT 0) (wc (.int 18)))) (srs .tl) (snil))
  (sseq (sif (wtest (wb2 wLt (wk kLenSetT (wvarT 1)) (wvarT 0))) (srs .na) (snil))
  (sseq (sasgF 2 (wk kSortedRev (wvarT 1)))
  (sret (wk kTuple (wlst (wlc (witems (wvarT 1)) [3] (tgn 3) (wyes) (wb2 wShl (wc (.int 1)) (windex (wvarT 2) (wvar 3))))))))))
theorem sc_stepped_weights : FnScope N_stepped_weights ["many", "ranks"] (defScope (top 27)) := ⟨rfl, rfl, rfl, by decide +kernel, rfl, by decide +kernel, by decide +kernel⟩
theorem df_stepped_weights (Y : Hy P w K mg base C) {s_check_ranks : Spec} (h_check_ranks : DfE P w K mg base (erV C) 2 "check_ranks" ["many", "ranks"] s_check_ranks) (Fe : FnIn K mg "stepped_weights" (top 27)) {spec : Spec} (run : ∀ (cs : List Cell) (b : Nat) (R : Except Er D → Nat → Prop), spec cs b R → cs.length = 2 ∧ runB 4 (b_stepped_weights s_check_ranks) cs b R) :
    DfE P w K mg base (erV C) 3 "stepped_weights" ["many", "ranks"] spec := by
  refine dfe_of (N := N_stepped_weights) (k := 2) Fe sc_stepped_weights (fun f fd F => F.binds (ps := ["many", "ranks"]) fun _ _ _ _ _ _ us hl => match us, hl with | [_, _], _ => rfl) (fun f S cdv A outer s H E hT G => ?_) run
  obtain ⟨K0, T0, on0, st0, nu0, ns0⟩ := S
  obtain rfl : T0 = erV C := hT
  exact ssx_cons (sx_expr (ex_callE G h_check_ranks (by decide) (ax_cons (EX.arg (ex_var (pv 0))) (ax_cons (EX.arg (ex_var (pv 1))) (ax_nil)))))
    (ssx_cons (sx_if (bx_gt (et_var (pv 0)) (EX.t (ex_giE Y.c_MAX_STEPPED))) (ssx_one (sx_raise G Y.e1 rfl)) (ssx_nil))
    (ssx_cons (sx_if (bx_lt (EX.t (ex_lenSetT G Y.B.len Y.B.set (et_var (pv 1)))) (et_var (pv 0))) (ssx_one (sx_raise G Y.e0 rfl)) (ssx_nil))
    (ssx_cons (sx_asgF (i := 2) G.nd rfl (.inr rfl) (ef_sortedRev Y.B.sorted (et_var (pv 1))))
    (ssx_one (sx_ret (ex_tuple Y.B.tuple (EF.t (ef_lc G (own := [("rank", 3)]) rfl (ix_anyT (et_var (pv 1))) (blkOk_by (by kernel_rfl)) (fun _ _ _ _ _ => gx_name G.blk.nd rfl (by first | exact .inl rfl | exact .inr rfl)) (fun _ _ _ _ _ => tx_nil) (fun _ _ _ _ _ => ex_shl (EX.t (ex_int)) (EX.t (ex_index (et_var (pv 2)) (ex_var (pv 3)))))))))))))
/-! stepped_ranks (level 4) -/
abbrev N_stepped_ranks : List Str := ["many", "weights", "order", "weight"]
def b_stepped_ranks (s_has_big_steps : Spec) : SW := sseq (sif (wnot (fun δ => wbind ((wcall (wconsC (warg (wvar 0)) (wconsC (warg (wvar 1)) (wnilC))) s_has_big_steps) δ) wtru)) (srs .ms) (snil))
  (sseq (sif (wtest (wb2 wEq (wk kMinX (wvarT 1)) (wc (.int 0)))) (srs .ms) (snil))
  (sseq (sasgF 2 (wk kSortedRev (wvarT 1)))
  (sret (wk kTuple (wlst (wlc (witems (wvarT 1)) [3] (tgn 3) (wyes) (windex (wvarT 2) (wvar 3))))))))
theorem sc_stepped_ranks : FnScope N_stepped_ranks ["many", "weights"] (defScope (top 28)) := ⟨rfl, rfl, rfl, by decide +kernel, rfl, by decide +kernel, by decide +kernel⟩
theorem df_stepped_ranks (Y : Hy P w K mg base C) {s_has_big_steps : Spec} (h_has_big_steps : DfE P w K mg base (erV C) 3 "has_big_steps" ["many", "weights"] s_has_big_steps) (Fe : FnIn K mg "stepped_ranks" (top 28)) {spec : Spec} (run : ∀ (cs : List Cell) (b : Nat) (R : Except Er D → Nat → Prop), spec cs b R → cs.length = 2 ∧ runB 4 (b_stepped_ranks s_has_big_steps) cs b R) :
    DfE P w K mg base (erV C) 4 "stepped_ranks" ["many", "weights"] spec := by
  refine dfe_of (N := N_stepped_ranks) (k := 3) Fe sc_stepped_ranks (fun f fd F => F.binds (ps := ["many", "weights"]) fun _ _ _ _ _ _ us hl => match us, hl with | [_, _], _ => rfl) (fun f S cdv A outer s H E hT G => ?_) run
  obtain ⟨K0, T0, on0, st0, nu0, ns0⟩ := S
  obtain rfl : T0 = erV C := hT
  exact ssx_cons (sx_if (bx_not (bx_tru (EX.t (ex_callE G h_has_big_steps (by decide) (ax_cons (EX.arg (ex_var (pv 0))) (ax_cons (EX.arg (ex_var (pv 1))) (ax_nil))))))) (ssx_one (sx_raise G Y.e2 rfl)) (ssx_nil))
    (ssx_cons (sx_if (bx_eq G (EX.t (ex_minX G Y.B.min (et_var (pv 1)))) (EX.t (ex_int))) (ssx_one (sx_raise G Y.e2 rfl)) (ssx_nil))
    (ssx_cons (sx_asgF (i := 2) G.nd rfl (.inr rfl) (ef_sortedRev Y.B.sorted (et_var (pv 1))))
    (ssx_one (sx_ret (ex_tuple Y.B.tuple (EF.t (ef_lc G (own := [("weight", 3)]) rfl (ix_anyT (et_var (pv 1))) (blkOk_by (by kernel_rfl)) (fun _ _ _ _ _ => gx_name G.blk.nd rfl (by first | exact .inl rfl | exact .inr rfl)) (fun _ _ _ _ _ => tx_nil) (fun _ _ _ _ _ => ex_index (et_var (pv 2)) (ex_var (pv 3))))))))))
/-! heaviest (level 3) -/
abbrev N_heaviest : List Str := ["many", "weights", "one", "world"]
def b_heaviest (s_check_weights s_check_set s_members s_sum_of : Spec) : SW := sseq (sdrop (wcall (wconsC (warg (wvar 0)) (wconsC (warg (wvar 1)) (wnilC))) s_check_weights))
  (sseq (sdrop (wcall (wconsC (warg (wvar 0)) (wconsC (warg (wvar 2)) (wnilC))) s_check_set))
  (sseq (sfor (witems (wcall (wconsC (warg (wvar 2)) (wnilC)) s_members)) (tgn 3)
    (sif (wtest (wb2 wGt (wb2 wMulT (wc (.int 2)) (wb2 wIx (wvarT 1) (wvarT 3))) (wcall (wconsC (warg (wvar 1)) (wconsC (warg (wvar 2)) (wnilC))) s_sum_of))) (sretV 3) (snil)))
  (srs .ms)))
theorem sc_heaviest : FnScope N_heaviest ["many", "weights", "one"] (defScope (top 29)) := ⟨rfl, rfl, rfl, by decide +kernel, rfl, by decide +kernel, by decide +kernel⟩
theorem df_heaviest (Y : Hy P w K mg base C) {s_check_weights s_check_set s_members s_sum_of : Spec} (h_check_weights : DfE P w K mg base (erV C) 2 "check_weights" ["many", "weights"] s_check_weights) (h_check_set : DfE P w K mg base (erV C) 2 "check_set" ["many", "one"] s_check_set) (h_members : DfE P w K mg base (erV C) 1 "members" ["one"] s_members) (h_sum_of : DfE P w K mg base (erV C) 2 "sum_of" ["weights", "one"] s_sum_of) (Fe : FnIn K mg "heaviest" (top 29)) {spec : Spec} (run : ∀ (cs : List Cell) (b : Nat) (R : Except Er D → Nat → Prop), spec cs b R → cs.length = 3 ∧ runB 4 (b_heaviest s_check_weights s_check_set s_members s_sum_of) cs b R) :
    DfE P w K mg base (erV C) 3 "heaviest" ["many", "weights", "one"] spec := by
  refine dfe_of (N := N_heaviest) (k := 2) Fe sc_heaviest (fun f fd F => F.binds (ps := ["many", "weights", "one"]) fun _ _ _ _ _ _ us hl => match us, hl with | [_, _, _], _ => rfl) (fun f S cdv A outer s H E hT G => ?_) run
  obtain ⟨K0, T0, on0, st0, nu0, ns0⟩ := S
  obtain rfl : T0 = erV C := hT
  exact ssx_cons (sx_expr (ex_callE G h_check_weights (by decide) (ax_cons (EX.arg (ex_var (pv 0))) (ax_cons (EX.arg (ex_var (pv 1))) (ax_nil)))))
    (ssx_cons (sx_expr (ex_callE G h_check_set (by decide) (ax_cons (EX.arg (ex_var (pv 0))) (ax_cons (EX.arg (ex_var (pv 2))) (ax_nil)))))
    (ssx_cons (sx_for G (ix_any (ex_callE G h_members (by decide) (ax_cons (EX.arg (ex_var (pv 2))) (ax_nil)))) (gx_name G.nd rfl (by first | exact .inl rfl | exact .inr rfl)) (ssx_one (sx_if (bx_gt (EX.t (ex_mulT (EX.t (ex_int)) (EX.t (ex_ix (et_var (pv 1)) (et_var (pv 3)))))) (EX.t (ex_callE G h_sum_of (by decide) (ax_cons (EX.arg (ex_var (pv 1))) (ax_cons (EX.arg (ex_var (pv 2))) (ax_nil)))))) (ssx_one (sx_retV (pv 3))) (ssx_nil))))
    (ssx_one (sx_raise G Y.e2 rfl))))
/-! same_as_ranks (level 3) -/
abbrev N_same_as_ranks : List Str := ["many", "weights", "ranks", "other", "least", "one"]
def b_same_as_ranks (s_check_weights s_check_ranks s_check_many s_least_of s_sum_of : Spec) : SW := sseq (sdrop (wcall (wconsC (warg (wvar 0)) (wconsC (warg (wvar 1)) (wnilC))) s_check_weights))
  (sseq (sdrop (wcall (wconsC (warg (wvar 0)) (wconsC (warg (wvar 2)) (wnilC))) s_check_ranks))
  (sseq (sdrop (wcall (wconsC (warg (wvar 0)) (wnilC)) s_check_many))
  (sseq (sif (wtest (wb2 wGt (wvarT 0) (wc (.int 6)))) (srs .tl) (snil))
  (sseq (sfor (wk kRange2 (wcons (wc (.int 1)) (wcons (wb2 wShl (wc (.int 1)) (wvarT 0)) (wnil)))) (tgn 3)
    (sseq (sasg 4 (wcall (wconsC (warg (wvar 2)) (wconsC (warg (wvar 3)) (wnilC))) s_least_of))
  (sfor (wk kRange1 (wcons (wb2 wShl (wc (.int 1)) (wvarT 0)) (wnil))) (tgn 5)
    (sif (wtest (wb2 wNe (wb2 wGt (wcall (wconsC (warg (wvar 1)) (wconsC (warg (wb2 wAnd (wvarT 3) (wvarT 5))) (wnilC))) s_sum_of) (wcall (wconsC (warg (wvar 1)) (wconsC (warg (wb2 wAnd (wvarT 3) (wb1 (wI1 Builtin.bitNot) (wvarT 5)))) (wnilC))) s_sum_of)) (wb2 wEq (wb2 wAnd (wvarT 4) (wb1 (wI1 Builtin.bitNot) (wvarT 5))) (wc (.int 0))))) (sret (wc (.bool false))) (snil)))))
  (sret (wc (.bool true)))))))
theorem sc_same_as_ranks : FnScope N_same_as_ranks ["many", "weights", "ranks"] (defScope (top 30)) := ⟨rfl, rfl, rfl, by decide +kernel, rfl, by decide +kernel, by decide +kernel⟩
theorem df_same_as_ranks (Y : Hy P w K mg base C) {s_check_weights s_check_ranks s_check_many s_least_of s_sum_of : Spec} (h_check_weights : DfE P w K mg base (erV C) 2 "check_weights" ["many", "weights"] s_check_weights) (h_check_ranks : DfE P w K mg base (erV C) 2 "check_ranks" ["many", "ranks"] s_check_ranks) (h_check_many : DfE P w K mg base (erV C) 1 "check_many" ["many"] s_check_many) (h_least_of : DfE P w K mg base (erV C) 2 "least_of" ["ranks", "one"] s_least_of) (h_sum_of : DfE P w K mg base (erV C) 2 "sum_of" ["weights", "one"] s_sum_of) (Fe : FnIn K mg "same_as_ranks" (top 30)) {spec : Spec} (run : ∀ (cs : List Cell) (b : Nat) (R : Except Er D → Nat → Prop), spec cs b R → cs.length = 3 ∧ runB 6 (b_same_as_ranks s_check_weights s_check_ranks s_check_many s_least_of s_sum_of) cs b R) :
    DfE P w K mg base (erV C) 3 "same_as_ranks" ["many", "weights", "ranks"] spec := by
  refine dfe_of (N := N_same_as_ranks) (k := 2) Fe sc_same_as_ranks (fun f fd F => F.binds (ps := ["many", "weights", "ranks"]) fun _ _ _ _ _ _ us hl => match us, hl with | [_, _, _], _ => rfl) (fun f S cdv A outer s H E hT G => ?_) run
  obtain ⟨K0, T0, on0, st0, nu0, ns0⟩ := S
  obtain rfl : T0 = erV C := hT
  exact ssx_cons (sx_expr (ex_callE G h_check_weights (by decide) (ax_cons (EX.arg (ex_var (pv 0))) (ax_cons (EX.arg (ex_var (pv 1))) (ax_nil)))))
    (ssx_cons (sx_expr (ex_callE G h_check_ranks (by decide) (ax_cons (EX.arg (ex_var (pv 0))) (ax_cons (EX.arg (ex_var (pv 2))) (ax_nil)))))
    (ssx_cons (sx_expr (ex_callE G h_check_many (by decide) (ax_cons (EX.arg (ex_var (pv 0))) (ax_nil))))
    (ssx_cons (sx_if (bx_gt (et_var (pv 0)) (EX.t (ex_int))) (ssx_one (sx_raise G Y.e1 rfl)) (ssx_nil))
    (ssx_cons (sx_for G (ix_range2 Y.B.range (lx_cons (ex_int) (lx_cons (ex_shl (EX.t (ex_int)) (et_var (pv 0))) (lx_nil)))) (gx_name G.nd rfl (by first | exact .inl rfl | exact .inr rfl)) (ssx_cons (sx_asg (i := 4) G.nd rfl (.inl rfl) (ex_callE G h_least_of (by decide) (ax_cons (EX.arg (ex_var (pv 2))) (ax_cons (EX.arg (ex_var (pv 3))) (ax_nil)))))
    (ssx_one (sx_for G (ix_range1 Y.B.range (lx_cons (ex_shl (EX.t (ex_int)) (et_var (pv 0))) (lx_nil))) (gx_name G.nd rfl (by first | exact .inl rfl | exact .inr rfl)) (ssx_one (sx_if (bx_ne G (EX.t (ex_gt (EX.t (ex_callE G h_sum_of (by decide) (ax_cons (EX.arg (ex_var (pv 1))) (ax_cons (EX.arg (ex_and (et_var (pv 3)) (et_var (pv 5)))) (ax_nil))))) (EX.t (ex_callE G h_sum_of (by decide) (ax_cons (EX.arg (ex_var (pv 1))) (ax_cons (EX.arg (ex_and (et_var (pv 3)) (EX.t (ex_inv (et_var (pv 5)))))) (ax_nil))))))) (EX.t (ex_eq G (EX.t (ex_and (et_var (pv 4)) (EX.t (ex_inv (et_var (pv 5)))))) (EX.t (ex_int))))) (ssx_one (sx_ret (ex_bl))) (ssx_nil)))))))
    (ssx_one (sx_ret (ex_bl)))))))
/-! _law_same (level 1) -/
abbrev N__law_same : List Str := ["told", "due"]
def b__law_same : SW := sret (wb2 wEq (wk kRepr (wlst (wlis (wcons (wvar 0) (wnil))))) (wk kRepr (wlst (wlis (wcons (wvar 1) (wnil))))))
theorem sc__law_same : FnScope N__law_same ["told", "due"] (defScope (top 32)) := ⟨rfl, rfl, rfl, by decide +kernel, rfl, by decide +kernel, by decide +kernel⟩
theorem df__law_same (Y : Hy P w K mg base C) (Fe : FnIn K mg "_law_same" (top 32)) {spec : Spec} (run : ∀ (cs : List Cell) (b : Nat) (R : Except Er D → Nat → Prop), spec cs b R → cs.length = 2 ∧ runB 2 (b__law_same) cs b R) :
    DfE P w K mg base (erV C) 1 "_law_same" ["told", "due"] spec := by
  refine dfe_of (N := N__law_same) (k := 0) Fe sc__law_same (fun f fd F => F.binds (ps := ["told", "due"]) fun _ _ _ _ _ _ us hl => match us, hl with | [_, _], _ => rfl) (fun f S cdv A outer s H E hT G => ?_) run
  obtain ⟨K0, T0, on0, st0, nu0, ns0⟩ := S
  obtain rfl : T0 = erV C := hT
  exact ssx_one (sx_ret (ex_eq G (EX.t (ex_repr G Y.B.repr (EF.t (ef_lst (lx_cons (ex_var (pv 0)) (lx_nil)))))) (EX.t (ex_repr G Y.B.repr (EF.t (ef_lst (lx_cons (ex_var (pv 1)) (lx_nil))))))))
/-! _law_stream (level 1) -/
abbrev N__law_stream : List Str := ["script", "numbers", "cell", "rest", "k", "stirred"]
def b__law_stream : SW := sseq (sasgF 1 (wlis (wnil)))
  (sseq (sfor (witems (wcutR 0 63)) (tgn 2)
    (sseq (sasg 3 (wk kAbs (wk kInt (wvarT 2))))
  (sif (wtest (wb2 wGe (wvarT 3) (wb2 wPow (wc (.int 10)) (wc (.int 18))))) (sfor (wk kRange1 (wcons (wc (.int 60)) (wnil))) (tgn 4)
    (sseq (sapp 1 (wb2 wMod (wk kInt (wvarT 3)) (wc (.int 1009))))
  (sseq (sasg 3 (wb2 wDiv (wvarT 3) (wc (.int 1009))))
  (sif (wtest (wb2 wEq (wvarT 3) (wc (.int 0)))) (sbrk) (snil))))) (sseq (sasg 5 (wb2 wMod (wk kInt (wvarT 3)) (wc (.int 2147483647))))
  (sfor (wk kRange1 (wcons (wc (.int 10)) (wnil))) (tgn 4)
    (sseq (sasg 5 (wb2 wMod (wk kInt (wb2 wAdd (wb2 wAdd (wb2 wMulT (wvarT 5) (wc (.int 48271))) (wb2 wMulT (wc (.int 7)) (wvarT 4))) (wc (.int 11)))) (wc (.int 2147483647))))
  (sapp 1 (wb2 wMod (wb2 wMod (wk kInt (wb2 wAdd (wb2 wMulT (wvarT 5) (wc (.int 69621))) (wvarT 4))) (wc (.int 2147483629))) (wc (.int 1009))))))))))
  (sseq (sif (wtest (wb2 wEq (wk kLen (wvarT 1)) (wc (.int 0)))) (sapp 1 (wc (.int 0))) (snil))
  (sretV 1)))
theorem sc__law_stream : FnScope N__law_stream ["script"] (defScope (top 33)) := ⟨rfl, rfl, rfl, by decide +kernel, rfl, by decide +kernel, by decide +kernel⟩
theorem df__law_stream (Y : Hy P w K mg base C) (Fe : FnIn K mg "_law_stream" (top 33)) {spec : Spec} (run : ∀ (cs : List Cell) (b : Nat) (R : Except Er D → Nat → Prop), spec cs b R → cs.length = 1 ∧ runB 6 (b__law_stream) cs b R) :
    DfE P w K mg base (erV C) 1 "_law_stream" ["script"] spec := by
  refine dfe_of (N := N__law_stream) (k := 0) Fe sc__law_stream (fun f fd F => F.binds (ps := ["script"]) fun _ _ _ _ _ _ us hl => match us, hl with | [_], _ => rfl) (fun f S cdv A outer s H E hT G => ?_) run
  obtain ⟨K0, T0, on0, st0, nu0, ns0⟩ := S
  obtain rfl : T0 = erV C := hT
  exact ssx_cons (sx_asgF (i := 1) G.nd rfl (.inl rfl) (ef_lst (lx_nil)))
    (ssx_cons (sx_for G (ix_any (ex_cutR G (pv 0))) (gx_name G.nd rfl (by first | exact .inl rfl | exact .inr rfl)) (ssx_cons (sx_asg (i := 3) G.nd rfl (.inl rfl) (ex_abs Y.B.abs (EX.t (ex_toInt Y.B.int (et_var (pv 2))))))
    (ssx_one (sx_if (bx_ge (et_var (pv 3)) (EX.t (ex_pow (EX.t (ex_int)) (EX.t (ex_int))))) (ssx_one (sx_for G (ix_range1 Y.B.range (lx_cons (ex_int) (lx_nil))) (gx_name G.nd rfl (by first | exact .inl rfl | exact .inr rfl)) (ssx_cons (sx_app (i := 1) (pv 1) (ex_mod (EX.t (ex_toInt Y.B.int (et_var (pv 3)))) (EX.t (ex_int))))
    (ssx_cons (sx_asg (i := 3) G.nd rfl (.inl rfl) (ex_div (et_var (pv 3)) (EX.t (ex_int))))
    (ssx_one (sx_if (bx_eq G (et_var (pv 3)) (EX.t (ex_int))) (ssx_one (sx_break)) (ssx_nil))))))) (ssx_cons (sx_asg (i := 5) G.nd rfl (.inl rfl) (ex_mod (EX.t (ex_toInt Y.B.int (et_var (pv 3)))) (EX.t (ex_int))))
    (ssx_one (sx_for G (ix_range1 Y.B.range (lx_cons (ex_int) (lx_nil))) (gx_name G.nd rfl (by first | exact .inl rfl | exact .inr rfl)) (ssx_cons (sx_asg (i := 5) G.nd rfl (.inl rfl) (ex_mod (EX.t (ex_toInt Y.B.int (EX.t (ex_add (EX.t (ex_add (EX.t (ex_mulT (et_var (pv 5)) (EX.t (ex_int)))) (EX.t (ex_mulT (EX.t (ex_int)) (et_var (pv 4)))))) (EX.t (ex_int)))))) (EX.t (ex_int))))
    (ssx_one (sx_app (i := 1) (pv 1) (ex_mod (EX.t (ex_mod (EX.t (ex_toInt Y.B.int (EX.t (ex_add (EX.t (ex_mulT (et_var (pv 5)) (EX.t (ex_int)))) (et_var (pv 4)))))) (EX.t (ex_int)))) (EX.t (ex_int)))))))))))))
    (ssx_cons (sx_if (bx_eq G (EX.t (ex_len Y.B.len (et_var (pv 1)))) (EX.t (ex_int))) (ssx_one (sx_app (i := 1) (pv 1) (ex_int))) (ssx_nil))
    (ssx_one (sx_retV (pv 1)))))
/-! _law_low (level 1) -/
abbrev N__law_low : List Str := ["ranks", "one", "world"]
def b__law_low : SW := sret (wk kMinX (wb2 wAdd (wlst (wlc (wk kRange1 (wcons (wk kLen (wvarT 0)) (wnil))) [2] (tgn 2) (fun δ => wbind ((wb2 wAnd (wb2 wShr (wvarT 1) (wvarT 2)) (wc (.int 1))) δ) wtru) (wb2 wIx (wvarT 0) (wvarT 2)))) (wlst (wlis (wcons (wc (.int 99999)) (wnil))))))
theorem sc__law_low : FnScope N__law_low ["ranks", "one"] (defScope (top 36)) := ⟨rfl, rfl, rfl, by decide +kernel, rfl, by decide +kernel, by decide +kernel⟩
theorem df__law_low (Y : Hy P w K mg base C) (Fe : FnIn K mg "_law_low" (top 36)) {spec : Spec} (run : ∀ (cs : List Cell) (b : Nat) (R : Except Er D → Nat → Prop), spec cs b R → cs.length = 2 ∧ runB 3 (b__law_low) cs b R) :
    DfE P w K mg base (erV C) 1 "_law_low" ["ranks", "one"] spec := by
  refine dfe_of (N := N__law_low) (k := 0) Fe sc__law_low (fun f fd F => F.binds (ps := ["ranks", "one"]) fun _ _ _ _ _ _ us hl => match us, hl with | [_, _], _ => rfl) (fun f S cdv A outer s H E hT G => ?_) run
  obtain ⟨K0, T0, on0, st0, nu0, ns0⟩ := S
  obtain rfl : T0 = erV C := hT
  exact ssx_one (sx_ret (ex_minX G Y.B.min (EX.t (ex_add (EF.t (ef_lc G (own := [("world", 2)]) rfl (IX.c (ix_range1 Y.B.range (lx_cons (ex_len Y.B.len (et_var (pv 0))) (lx_nil)))) (blkOk_by (by kernel_rfl)) (fun _ _ _ _ _ => gx_name G.blk.nd rfl (by first | exact .inl rfl | exact .inr rfl)) (fun _ _ _ _ _ => tx_one (bx_tru (EX.t (ex_and (EX.t (ex_shr (et_var (pv 1)) (et_var (pv 2)))) (EX.t (ex_int)))))) (fun _ _ _ _ _ => ex_ix (et_var (pv 0)) (et_var (pv 2))))) (EF.t (ef_lst (lx_cons (ex_int) (lx_nil))))))))
/-! _law_lowest (level 2) -/
abbrev N__law_lowest : List Str := ["ranks", "one", "best", "world"]
def b__law_lowest (s__law_low : Spec) : SW := sseq (sasg 2 (wcall (wconsC (warg (wvar 0)) (wconsC (warg (wvar 1)) (wnilC))) s__law_low))
  (sret (wk kSum (wlst (wlc (wk kRange1 (wcons (wk kLen (wvarT 0)) (wnil))) [3] (tgn 3) (wand (fun δ => wbind ((wb2 wAnd (wb2 wShr (wvarT 1) (wvarT 3)) (wc (.int 1))) δ) wtru) (wtest (wb2 wEq (wb2 wIx (wvarT 0) (wvarT 3)) (wvarT 2)))) (wb2 wShl (wc (.int 1)) (wvarT 3))))))
theorem sc__law_lowest : FnScope N__law_lowest ["ranks", "one"] (defScope (top 37)) := ⟨rfl, rfl, rfl, by decide +kernel, rfl, by decide +kernel, by decide +kernel⟩
theorem df__law_lowest (Y : Hy P w K mg base C) {s__law_low : Spec} (h__law_low : DfE P w K mg base (erV C) 1 "_law_low" ["ranks", "one"] s__law_low) (Fe : FnIn K mg "_law_lowest" (top 37)) {spec : Spec} (run : ∀ (cs : List Cell) (b : Nat) (R : Except Er D → Nat → Prop), spec cs b R → cs.length = 2 ∧ runB 4 (b__law_lowest s__law_low) cs b R) :
    DfE P w K mg base (erV C) 2 "_law_lowest" ["ranks", "one"] spec := by
  refine dfe_of (N := N__law_lowest) (k := 1) Fe sc__law_lowest (fun f fd F => F.binds (ps := ["ranks", "one"]) fun _ _ _ _ _ _ us hl => match us, hl with | [_, _], _ => rfl) (fun f S cdv A outer s H E hT G => ?_) run
  obtain ⟨K0, T0, on0, st0, nu0, ns0⟩ := S
  obtain rfl : T0 = erV C := hT
  exact ssx_cons (sx_asg (i := 2) G.nd rfl (.inr rfl) (ex_callE G h__law_low (by decide) (ax_cons (EX.arg (ex_var (pv 0))) (ax_cons (EX.arg (ex_var (pv 1))) (ax_nil)))))
    (ssx_one (sx_ret (ex_sum G Y.B.sum (EF.t (ef_lc G (own := [("world", 3)]) rfl (IX.c (ix_range1 Y.B.range (lx_cons (ex_len Y.B.len (et_var (pv 0))) (lx_nil)))) (blkOk_by (by kernel_rfl)) (fun _ _ _ _ _ => gx_name G.blk.nd rfl (by first | exact .inl rfl | exact .inr rfl)) (fun _ _ _ _ _ => tx_one (BW.x (bw_and (bx_tru (EX.t (ex_and (EX.t (ex_shr (et_var (pv 1)) (et_var (pv 3)))) (EX.t (ex_int))))) (bw_and1 (bx_eq G.blk (EX.t (ex_ix (et_var (pv 0)) (et_var (pv 3)))) (et_var (pv 2))))))) (fun _ _ _ _ _ => ex_shl (EX.t (ex_int)) (et_var (pv 3))))))))
/-! _law_drawn_ranks (level 2) -/
abbrev N__law_drawn_ranks : List Str := ["state", "many", "most", "ranks", "k", "low", "rank"]
def b__law_drawn_ranks (s__law_next : Spec) : SW := sseq (sasgF 3 (wlc (wk kRange1 (wcons (wvar 1) (wnil))) [4] (tgn 4) (wyes) (wcall (wconsC (wvarC 0) (wconsC (warg (wb2 wIx (wlst (wlis (wcons (wc (.int 2)) (wcons (wc (.int 3)) (wcons (wb2 wAdd (wvarT 2) (wc (.int 1))) (wcons (wc (.int 6)) (wnil))))))) (wcall (wconsC (wvarC 0) (wconsC (warg (wc (.int 4))) (wnilC))) s__law_next))) (wnilC))) s__law_next)))
  (sseq (sasg 5 (wk kMin (wvarT 3)))
  (sret (wk kTuple (wlst (wlc (witems (wvarT 3)) [6] (tgn 6) (wyes) (wb2 wSub (wvarT 6) (wvarT 5)))))))
theorem sc__law_drawn_ranks : FnScope N__law_drawn_ranks ["state", "many", "most"] (defScope (top 38)) := ⟨rfl, rfl, rfl, by decide +kernel, rfl, by decide +kernel, by decide +kernel⟩
theorem df__law_drawn_ranks (Y : Hy P w K mg base C) {s__law_next : Spec} (h__law_next : DfE P w K mg base (erV C) 1 "_law_next" ["state", "many"] s__law_next) (Fe : FnIn K mg "_law_drawn_ranks" (top 38)) {spec : Spec} (run : ∀ (cs : List Cell) (b : Nat) (R : Except Er D → Nat → Prop), spec cs b R → cs.length = 3 ∧ runB 7 (b__law_drawn_ranks s__law_next) cs b R) :
    DfE P w K mg base (erV C) 2 "_law_drawn_ranks" ["state", "many", "most"] spec := by
  refine dfe_of (N := N__law_drawn_ranks) (k := 1) Fe sc__law_drawn_ranks (fun f fd F => F.binds (ps := ["state", "many", "most"]) fun _ _ _ _ _ _ us hl => match us, hl with | [_, _, _], _ => rfl) (fun f S cdv A outer s H E hT G => ?_) run
  obtain ⟨K0, T0, on0, st0, nu0, ns0⟩ := S
  obtain rfl : T0 = erV C := hT
  exact ssx_cons (sx_asgLcF G (own := [("k", 4)]) rfl (i := 3) rfl rfl (sw_true rfl rfl rfl (by decide +kernel)) (IX.c (ix_range1 Y.B.range (lx_cons (ex_var (pv 1)) (lx_nil)))) (blkOk_by (by kernel_rfl)) (fun _ _ _ _ _ => gx_name G.blk.nd rfl (by first | exact .inl rfl | exact .inr rfl)) (fun _ _ _ _ _ => tx_nil) (fun _ _ _ _ _ => ex_callE G.blk h__law_next (by decide) (ax_cons (ec_var (pv 0)) (ax_cons (EX.arg (ex_ix (EF.t (ef_lst (lx_cons (ex_int) (lx_cons (ex_int) (lx_cons (ex_add (et_var (pv 2)) (EX.t (ex_int))) (lx_cons (ex_int) (lx_nil))))))) (EX.t (ex_callE G.blk h__law_next (by decide) (ax_cons (ec_var (pv 0)) (ax_cons (EX.arg (ex_int)) (ax_nil))))))) (ax_nil)))))
    (ssx_cons (sx_asg (i := 5) G.nd rfl (.inr rfl) (ex_min G Y.B.min (et_var (pv 3))))
    (ssx_one (sx_ret (ex_tuple Y.B.tuple (EF.t (ef_lc G (own := [("rank", 6)]) rfl (ix_anyT (et_var (pv 3))) (blkOk_by (by kernel_rfl)) (fun _ _ _ _ _ => gx_name G.blk.nd rfl (by first | exact .inl rfl | exact .inr rfl)) (fun _ _ _ _ _ => tx_nil) (fun _ _ _ _ _ => ex_sub (et_var (pv 6)) (et_var (pv 5)))))))))
/-! _law_drawn_set (level 2) -/
abbrev N__law_drawn_set : List Str := ["state", "many", "kind", "world"]
def b__law_drawn_set (s__law_next : Spec) : SW := sseq (sasg 2 (wcall (wconsC (wvarC 0) (wconsC (warg (wc (.int 5))) (wnilC))) s__law_next))
  (sseq (sif (wtest (wb2 wEq (wvarT 2) (wc (.int 0)))) (sret (wb2 wShl (wc (.int 1)) (wcall (wconsC (wvarC 0) (wconsC (warg (wvar 1)) (wnilC))) s__law_next))) (snil))
  (sret (wk kSum (wlst (wlc (wk kRange1 (wcons (wvar 1) (wnil))) [3] (tgn 3) (wtest (wb2 wLt (wcall (wconsC (wvarC 0) (wconsC (warg (wc (.int 4))) (wnilC))) s__law_next) (wvarT 2))) (wb2 wShl (wc (.int 1)) (wvarT 3)))))))
theorem sc__law_drawn_set : FnScope N__law_drawn_set ["state", "many"] (defScope (top 39)) := ⟨rfl, rfl, rfl, by decide +kernel, rfl, by decide +kernel, by decide +kernel⟩
theorem df__law_drawn_set (Y : Hy P w K mg base C) {s__law_next : Spec} (h__law_next : DfE P w K mg base (erV C) 1 "_law_next" ["state", "many"] s__law_next) (Fe : FnIn K mg "_law_drawn_set" (top 39)) {spec : Spec} (run : ∀ (cs : List Cell) (b : Nat) (R : Except Er D → Nat → Prop), spec cs b R → cs.length = 2 ∧ runB 4 (b__law_drawn_set s__law_next) cs b R) :
    DfE P w K mg base (erV C) 2 "_law_drawn_set" ["state", "many"] spec := by
  refine dfe_of (N := N__law_drawn_set) (k := 1) Fe sc__law_drawn_set (fun f fd F => F.binds (ps := ["state", "many"]) fun _ _ _ _ _ _ us hl => match us, hl with | [_, _], _ => rfl) (fun f S cdv A outer s H E hT G => ?_) run
  obtain ⟨K0, T0, on0, st0, nu0, ns0⟩ := S
  obtain rfl : T0 = erV C := hT
  exact ssx_cons (sx_asg (i := 2) G.nd rfl (.inr rfl) (ex_callE G h__law_next (by decide) (ax_cons (ec_var (pv 0)) (ax_cons (EX.arg (ex_int)) (ax_nil)))))
    (ssx_cons (sx_if (bx_eq G (et_var (pv 2)) (EX.t (ex_int))) (ssx_one (sx_ret (ex_shl (EX.t (ex_int)) (EX.t (ex_callE G h__law_next (by decide) (ax_cons (ec_var (pv 0)) (ax_cons (EX.arg (ex_var (pv 1))) (ax_nil)))))))) (ssx_nil))
    (ssx_one (sx_ret (ex_sum G Y.B.sum (EF.t (ef_lc G (own := [("world", 3)]) rfl (IX.c (ix_range1 Y.B.range (lx_cons (ex_var (pv 1)) (lx_nil)))) (blkOk_by (by kernel_rfl)) (fun _ _ _ _ _ => gx_name G.blk.nd rfl (by first | exact .inl rfl | exact .inr rfl)) (fun _ _ _ _ _ => tx_one (bx_lt (EX.t (ex_callE G.blk h__law_next (by decide) (ax_cons (ec_var (pv 0)) (ax_cons (EX.arg (ex_int)) (ax_nil))))) (et_var (pv 2)))) (fun _ _ _ _ _ => ex_shl (EX.t (ex_int)) (et_var (pv 3)))))))))
/-! _law_weight (level 1) -/
abbrev N__law_weight : List Str := ["weights", "one", "world"]
def b__law_weight : SW := sret (wk kSum (wlst (wlc (wk kRange1 (wcons (wk kLen (wvarT 0)) (wnil))) [2] (tgn 2) (fun δ => wbind ((wb2 wAnd (wb2 wShr (wvarT 1) (wvarT 2)) (wc (.int 1))) δ) wtru) (wb2 wIx (wvarT 0) (wvarT 2)))))
theorem sc__law_weight : FnScope N__law_weight ["weights", "one"] (defScope (top 40)) := ⟨rfl, rfl, rfl, by decide +kernel, rfl, by decide +kernel, by decide +kernel⟩
theorem df__law_weight (Y : Hy P w K mg base C) (Fe : FnIn K mg "_law_weight" (top 40)) {spec : Spec} (run : ∀ (cs : List Cell) (b : Nat) (R : Except Er D → Nat → Prop), spec cs b R → cs.length = 2 ∧ runB 3 (b__law_weight) cs b R) :
    DfE P w K mg base (erV C) 1 "_law_weight" ["weights", "one"] spec := by
  refine dfe_of (N := N__law_weight) (k := 0) Fe sc__law_weight (fun f fd F => F.binds (ps := ["weights", "one"]) fun _ _ _ _ _ _ us hl => match us, hl with | [_, _], _ => rfl) (fun f S cdv A outer s H E hT G => ?_) run
  obtain ⟨K0, T0, on0, st0, nu0, ns0⟩ := S
  obtain rfl : T0 = erV C := hT
  exact ssx_one (sx_ret (ex_sum G Y.B.sum (EF.t (ef_lc G (own := [("world", 2)]) rfl (IX.c (ix_range1 Y.B.range (lx_cons (ex_len Y.B.len (et_var (pv 0))) (lx_nil)))) (blkOk_by (by kernel_rfl)) (fun _ _ _ _ _ => gx_name G.blk.nd rfl (by first | exact .inl rfl | exact .inr rfl)) (fun _ _ _ _ _ => tx_one (bx_tru (EX.t (ex_and (EX.t (ex_shr (et_var (pv 1)) (et_var (pv 2)))) (EX.t (ex_int)))))) (fun _ _ _ _ _ => ex_ix (et_var (pv 0)) (et_var (pv 2)))))))
/-! _law_told (level 5) -/
abbrev N__law_told : List Str := ["kind", "many", "weights", "one", "two", "e"]
def b__law_told (s_has_big_steps s_closes s_parting_sets s_stepped_ranks s_accepts s_heaviest s_same_as_ranks s_stepped_weights : Spec) : SW := stry (sseq (sif (wtest (wb2 wLt (wvarT 0) (wc (.int 4)))) (sret (wtup (wcons (wc (.str "told")) (wcons (wsel (wvar 0) (wconsC (warg (wvar 1)) (wconsC (warg (wvar 2)) (wnilC))) [s_has_big_steps, s_closes, s_parting_sets, s_stepped_ranks]) (wnil))))) (snil))
  (sseq (sif (wtest (wb2 wEq (wvarT 0) (wc (.int 4)))) (sret (wtup (wcons (wc (.str "told")) (wcons (wcall (wconsC (warg (wvar 1)) (wconsC (warg (wvar 2)) (wconsC (warg (wvar 3)) (wconsC (warg (wvar 4)) (wnilC))))) s_accepts) (wnil))))) (snil))
  (sseq (sif (wtest (wb2 wEq (wvarT 0) (wc (.int 5)))) (sret (wtup (wcons (wc (.str "told")) (wcons (wcall (wconsC (warg (wvar 1)) (wconsC (warg (wvar 2)) (wconsC (warg (wvar 3)) (wnilC)))) s_heaviest) (wnil))))) (snil))
  (sseq (sif (wtest (wb2 wEq (wvarT 0) (wc (.int 6)))) (sret (wtup (wcons (wc (.str "told")) (wcons (wcall (wconsC (warg (wvar 1)) (wconsC (warg (wvar 2)) (wconsC (warg (wvar 3)) (wnilC)))) s_same_as_ranks) (wnil))))) (snil))
  (sret (wtup (wcons (wc (.str "told")) (wcons (wcall (wconsC (warg (wvar 1)) (wconsC (warg (wvar 2)) (wnilC))) s_stepped_weights) (wnil)))))))))
theorem sc__law_told : FnScope N__law_told ["kind", "many", "weights", "one", "two"] (defScope (top 41)) := ⟨rfl, rfl, rfl, by decide +kernel, rfl, by decide +kernel, by decide +kernel⟩
theorem df__law_told (Y : Hy P w K mg base C) (Y2 : ErrFn P w K mg base C) {s_has_big_steps s_closes s_parting_sets s_stepped_ranks s_accepts s_heaviest s_same_as_ranks s_stepped_weights : Spec} (h_has_big_steps : DfE P w K mg base (erV C) 3 "has_big_steps" ["many", "weights"] s_has_big_steps) (h_closes : DfE P w K mg base (erV C) 4 "closes" ["many", "weights"] s_closes) (h_parting_sets : DfE P w K mg base (erV C) 3 "parting_sets" ["many", "weights"] s_parting_sets) (h_stepped_ranks : DfE P w K mg base (erV C) 4 "stepped_ranks" ["many", "weights"] s_stepped_ranks) (h_accepts : DfE P w K mg base (erV C) 3 "accepts" ["many", "weights", "one", "other"] s_accepts) (h_heaviest : DfE P w K mg base (erV C) 3 "heaviest" ["many", "weights", "one"] s_heaviest) (h_same_as_ranks : DfE P w K mg base (erV C) 3 "same_as_ranks" ["many", "weights", "ranks"] s_same_as_ranks) (h_stepped_weights : DfE P w K mg base (erV C) 3 "stepped_weights" ["many", "ranks"] s_stepped_weights) (Fe : FnIn K mg "_law_told" (top 41)) {spec : Spec} (run : ∀ (cs : List Cell) (b : Nat) (R : Except Er D → Nat → Prop), spec cs b R → cs.length = 5 ∧ runB 6 (b__law_told s_has_big_steps s_closes s_parting_sets s_stepped_ranks s_accepts s_heaviest s_same_as_ranks s_stepped_weights) cs b R) :
    DfE P w K mg base (erV C) 5 "_law_told" ["kind", "many", "weights", "one", "two"] spec := by
  refine dfe_of (N := N__law_told) (k := 4) Fe sc__law_told (fun f fd F => F.binds (ps := ["kind", "many", "weights", "one", "two"]) fun _ _ _ _ _ _ us hl => match us, hl with | [_, _, _, _, _], _ => rfl) (fun f S cdv A outer s H E hT G => ?_) run
  obtain ⟨K0, T0, on0, st0, nu0, ns0⟩ := S
  obtain rfl : T0 = erV C := hT
  exact let ⟨_, _, Fe2, Bd2, Kp2, Mg2, _, Mm2, Ex2⟩ := Y2
    ssx_one (sx_try (i := 5) G Fe2 (by decide) Bd2 Kp2 Mg2 Mm2 Ex2 (fun W' pn xe G => ssx_cons (sx_if (bx_lt (et_var (pv 0)) (EX.t (ex_int))) (ssx_one (sx_ret (ex_tup (lx_cons (ex_str) (lx_cons (ex_sel G (sel_cons h_has_big_steps (by decide) (sel_cons h_closes (by decide) (sel_cons h_parting_sets (by decide) (sel_cons h_stepped_ranks (by decide) (sel_nil))))) (ex_var (pv 0)) (ax_cons (EX.arg (ex_var (pv 1))) (ax_cons (EX.arg (ex_var (pv 2))) (ax_nil)))) (lx_nil)))))) (ssx_nil))
    (ssx_cons (sx_if (bx_eq G (et_var (pv 0)) (EX.t (ex_int))) (ssx_one (sx_ret (ex_tup (lx_cons (ex_str) (lx_cons (ex_callE G h_accepts (by decide) (ax_cons (EX.arg (ex_var (pv 1))) (ax_cons (EX.arg (ex_var (pv 2))) (ax_cons (EX.arg (ex_var (pv 3))) (ax_cons (EX.arg (ex_var (pv 4))) (ax_nil)))))) (lx_nil)))))) (ssx_nil))
    (ssx_cons (sx_if (bx_eq G (et_var (pv 0)) (EX.t (ex_int))) (ssx_one (sx_ret (ex_tup (lx_cons (ex_str) (lx_cons (ex_callE G h_heaviest (by decide) (ax_cons (EX.arg (ex_var (pv 1))) (ax_cons (EX.arg (ex_var (pv 2))) (ax_cons (EX.arg (ex_var (pv 3))) (ax_nil))))) (lx_nil)))))) (ssx_nil))
    (ssx_cons (sx_if (bx_eq G (et_var (pv 0)) (EX.t (ex_int))) (ssx_one (sx_ret (ex_tup (lx_cons (ex_str) (lx_cons (ex_callE G h_same_as_ranks (by decide) (ax_cons (EX.arg (ex_var (pv 1))) (ax_cons (EX.arg (ex_var (pv 2))) (ax_cons (EX.arg (ex_var (pv 3))) (ax_nil))))) (lx_nil)))))) (ssx_nil))
    (ssx_one (sx_ret (ex_tup (lx_cons (ex_str) (lx_cons (ex_callE G h_stepped_weights (by decide) (ax_cons (EX.arg (ex_var (pv 1))) (ax_cons (EX.arg (ex_var (pv 2))) (ax_nil)))) (lx_nil)))))))))) rfl rfl)
/-! _law_drawn_weights (level 2) -/
abbrev N__law_drawn_weights : List Str := ["state", "many", "kind", "weights", "world"]
def b__law_drawn_weights (s__law_next : Spec) : SW := sseq (sasg 2 (wcall (wconsC (wvarC 0) (wconsC (warg (wc (.int 4))) (wnilC))) s__law_next))
  (sseq (sif (wtest (wb2 wEq (wvarT 2) (wc (.int 0)))) (sasgF 3 (wlc (wk kRange1 (wcons (wvar 1) (wnil))) [4] (tgn 4) (wyes) (wb2 wShl (wc (.int 1)) (wcall (wconsC (wvarC 0) (wconsC (warg (wb2 wAdd (wvarT 1) (wc (.int 2)))) (wnilC))) s__law_next)))) (sif (wtest (wb2 wEq (wvarT 2) (wc (.int 1)))) (sasgF 3 (wlc (wk kRange1 (wcons (wvar 1) (wnil))) [4] (tgn 4) (wyes) (wb2 wIx (wlst (wlis (wcons (wc (.int 1)) (wcons (wc (.int 1)) (wcons (wc (.int 2)) (wcons (wc (.int 4)) (wcons (wc (.int 9)) (wcons (wc (.int 20)) (wnil))))))))) (wvarT 4)))) (sasgF 3 (wlc (wk kRange1 (wcons (wvar 1) (wnil))) [4] (tgn 4) (wyes) (wcall (wconsC (wvarC 0) (wconsC (warg (wb2 wIx (wlst (wlis (wcons (wc (.int 3)) (wcons (wc (.int 40)) (wnil))))) (wb2 wSub (wvarT 2) (wc (.int 2))))) (wnilC))) s__law_next)))))
  (sseq (sif (wtest (wb2 wEq (wk kMax (wvarT 3)) (wc (.int 0)))) (sset 3 (wc (.int 0)) (wc (.int 1))) (snil))
  (sret (wk kTuple (wvarT 3)))))
theorem sc__law_drawn_weights : FnScope N__law_drawn_weights ["state", "many"] (defScope (top 42)) := ⟨rfl, rfl, rfl, by decide +kernel, rfl, by decide +kernel, by decide +kernel⟩
theorem df__law_drawn_weights (Y : Hy P w K mg base C) {s__law_next : Spec} (h__law_next : DfE P w K mg base (erV C) 1 "_law_next" ["state", "many"] s__law_next) (Fe : FnIn K mg "_law_drawn_weights" (top 42)) {spec : Spec} (run : ∀ (cs : List Cell) (b : Nat) (R : Except Er D → Nat → Prop), spec cs b R → cs.length = 2 ∧ runB 5 (b__law_drawn_weights s__law_next) cs b R) :
    DfE P w K mg base (erV C) 2 "_law_drawn_weights" ["state", "many"] spec := by
  refine dfe_of (N := N__law_drawn_weights) (k := 1) Fe sc__law_drawn_weights (fun f fd F => F.binds (ps := ["state", "many"]) fun _ _ _ _ _ _ us hl => match us, hl with | [_, _], _ => rfl) (fun f S cdv A outer s H E hT G => ?_) run
  obtain ⟨K0, T0, on0, st0, nu0, ns0⟩ := S
  obtain rfl : T0 = erV C := hT
  exact ssx_cons (sx_asg (i := 2) G.nd rfl (.inr rfl) (ex_callE G h__law_next (by decide) (ax_cons (ec_var (pv 0)) (ax_cons (EX.arg (ex_int)) (ax_nil)))))
    (ssx_cons (sx_if (bx_eq G (et_var (pv 2)) (EX.t (ex_int))) (ssx_one (sx_asgLcF G (own := [("world", 4)]) rfl (i := 3) rfl rfl (sw_true rfl rfl rfl (by decide +kernel)) (IX.c (ix_range1 Y.B.range (lx_cons (ex_var (pv 1)) (lx_nil)))) (blkOk_by (by kernel_rfl)) (fun _ _ _ _ _ => gx_name G.blk.nd rfl (by first | exact .inl rfl | exact .inr rfl)) (fun _ _ _ _ _ => tx_nil) (fun _ _ _ _ _ => ex_shl (EX.t (ex_int)) (EX.t (ex_callE G.blk h__law_next (by decide) (ax_cons (ec_var (pv 0)) (ax_cons (EX.arg (ex_add (et_var (pv 1)) (EX.t (ex_int)))) (ax_nil)))))))) (ssx_one (sx_if (bx_eq G (et_var (pv 2)) (EX.t (ex_int))) (ssx_one (sx_asgLcF G (own := [("world", 4)]) rfl (i := 3) rfl rfl (sw_true rfl rfl rfl (by decide +kernel)) (IX.c (ix_range1 Y.B.range (lx_cons (ex_var (pv 1)) (lx_nil)))) (blkOk_by (by kernel_rfl)) (fun _ _ _ _ _ => gx_name G.blk.nd rfl (by first | exact .inl rfl | exact .inr rfl)) (fun _ _ _ _ _ => tx_nil) (fun _ _ _ _ _ => ex_ix (EF.t (ef_lst (lx_cons (ex_int) (lx_cons (ex_int) (lx_cons (ex_int) (lx_cons (ex_int) (lx_cons (ex_int) (lx_cons (ex_int) (lx_nil))))))))) (et_var (pv 4))))) (ssx_one (sx_asgLcF G (own := [("world", 4)]) rfl (i := 3) rfl rfl (sw_true rfl rfl rfl (by decide +kernel)) (IX.c (ix_range1 Y.B.range (lx_cons (ex_var (pv 1)) (lx_nil)))) (blkOk_by (by kernel_rfl)) (fun _ _ _ _ _ => gx_name G.blk.nd rfl (by first | exact .inl rfl | exact .inr rfl)) (fun _ _ _ _ _ => tx_nil) (fun _ _ _ _ _ => ex_callE G.blk h__law_next (by decide) (ax_cons (ec_var (pv 0)) (ax_cons (EX.arg (ex_ix (EF.t (ef_lst (lx_cons (ex_int) (lx_cons (ex_int) (lx_nil))))) (EX.t (ex_sub (et_var (pv 2)) (EX.t (ex_int)))))) (ax_nil)))))))))
    (ssx_cons (sx_if (bx_eq G (EX.t (ex_max G Y.B.max (et_var (pv 3)))) (EX.t (ex_int))) (ssx_one (sx_set (i := 3) (pv 3) (ex_int) (ex_int))) (ssx_nil))
    (ssx_one (sx_ret (ex_tuple Y.B.tuple (et_var (pv 3)))))))
/-! _law_accepted (level 2) -/
abbrev N__law_accepted : List Str := ["weights", "other", "half", "one"]
def b__law_accepted (s__law_weight : Spec) : SW := sseq (sasg 2 (wcall (wconsC (warg (wvar 0)) (wconsC (warg (wvar 1)) (wnilC))) s__law_weight))
  (sret (wlst (wlc (wk kRange1 (wcons (wb2 wShl (wc (.int 1)) (wk kLen (wvarT 0))) (wnil))) [3] (tgn 3) (wand (wtest (wb2 wEq (wb2 wAnd (wvarT 3) (wb1 (wI1 Builtin.bitNot) (wvarT 1))) (wc (.int 0)))) (wtest (wb2 wGt (wb2 wMulT (wc (.int 2)) (wcall (wconsC (warg (wvar 0)) (wconsC (warg (wvar 3)) (wnilC))) s__law_weight)) (wvarT 2)))) (wvar 3))))
theorem sc__law_accepted : FnScope N__law_accepted ["weights", "other"] (defScope (top 43)) := ⟨rfl, rfl, rfl, by decide +kernel, rfl, by decide +kernel, by decide +kernel⟩
theorem df__law_accepted (Y : Hy P w K mg base C) {s__law_weight : Spec} (h__law_weight : DfE P w K mg base (erV C) 1 "_law_weight" ["weights", "one"] s__law_weight) (Fe : FnIn K mg "_law_accepted" (top 43)) {spec : Spec} (run : ∀ (cs : List Cell) (b : Nat) (R : Except Er D → Nat → Prop), spec cs b R → cs.length = 2 ∧ runB 4 (b__law_accepted s__law_weight) cs b R) :
    DfE P w K mg base (erV C) 2 "_law_accepted" ["weights", "other"] spec := by
  refine dfe_of (N := N__law_accepted) (k := 1) Fe sc__law_accepted (fun f fd F => F.binds (ps := ["weights", "other"]) fun _ _ _ _ _ _ us hl => match us, hl with | [_, _], _ => rfl) (fun f S cdv A outer s H E hT G => ?_) run
  obtain ⟨K0, T0, on0, st0, nu0, ns0⟩ := S
  obtain rfl : T0 = erV C := hT
  exact ssx_cons (sx_asg (i := 2) G.nd rfl (.inr rfl) (ex_callE G h__law_weight (by decide) (ax_cons (EX.arg (ex_var (pv 0))) (ax_cons (EX.arg (ex_var (pv 1))) (ax_nil)))))
    (ssx_one (sx_ret (EF.v (ef_lc G (own := [("one", 3)]) rfl (IX.c (ix_range1 Y.B.range (lx_cons (ex_shl (EX.t (ex_int)) (EX.t (ex_len Y.B.len (et_var (pv 0))))) (lx_nil)))) (blkOk_by (by kernel_rfl)) (fun _ _ _ _ _ => gx_name G.blk.nd rfl (by first | exact .inl rfl | exact .inr rfl)) (fun _ _ _ _ _ => tx_one (BW.x (bw_and (bx_eq G.blk (EX.t (ex_and (et_var (pv 3)) (EX.t (ex_inv (et_var (pv 1)))))) (EX.t (ex_int))) (bw_and1 (bx_gt (EX.t (ex_mulT (EX.t (ex_int)) (EX.t (ex_callE G.blk h__law_weight (by decide) (ax_cons (EX.arg (ex_var (pv 0))) (ax_cons (EX.arg (ex_var (pv 3))) (ax_nil))))))) (et_var (pv 2))))))) (fun _ _ _ _ _ => ex_var (pv 3))))))
/-! _law_parts (level 3) -/
abbrev N__law_parts : List Str := ["weights", "other", "rows", "one", "more"]
def b__law_parts (s__law_accepted : Spec) : SW := sseq (sasg 2 (wcall (wconsC (warg (wvar 0)) (wconsC (warg (wvar 1)) (wnilC))) s__law_accepted))
  (sseq (sfor (witems (wvar 2)) (tgn 3)
    (sfor (witems (wvar 2)) (tgn 4)
    (sif (wtest (wb2 (kIn true) (wb2 wAnd (wvarT 3) (wvarT 4)) (wvarT 2))) (sret (wc (.bool true))) (snil))))
  (sret (wc (.bool false))))
theorem sc__law_parts : FnScope N__law_parts ["weights", "other"] (defScope (top 44)) := ⟨rfl, rfl, rfl, by decide +kernel, rfl, by decide +kernel, by decide +kernel⟩
theorem df__law_parts (Y : Hy P w K mg base C) {s__law_accepted : Spec} (h__law_accepted : DfE P w K mg base (erV C) 2 "_law_accepted" ["weights", "other"] s__law_accepted) (Fe : FnIn K mg "_law_parts" (top 44)) {spec : Spec} (run : ∀ (cs : List Cell) (b : Nat) (R : Except Er D → Nat → Prop), spec cs b R → cs.length = 2 ∧ runB 5 (b__law_parts s__law_accepted) cs b R) :
    DfE P w K mg base (erV C) 3 "_law_parts" ["weights", "other"] spec := by
  refine dfe_of (N := N__law_parts) (k := 2) Fe sc__law_parts (fun f fd F => F.binds (ps := ["weights", "other"]) fun _ _ _ _ _ _ us hl => match us, hl with | [_, _], _ => rfl) (fun f S cdv A outer s H E hT G => ?_) run
  obtain ⟨K0, T0, on0, st0, nu0, ns0⟩ := S
  obtain rfl : T0 = erV C := hT
  exact ssx_cons (sx_asg (i := 2) G.nd rfl (.inl rfl) (ex_callE G h__law_accepted (by decide) (ax_cons (EX.arg (ex_var (pv 0))) (ax_cons (EX.arg (ex_var (pv 1))) (ax_nil)))))
    (ssx_cons (sx_for G (ix_any (ex_var (pv 2))) (gx_name G.nd rfl (by first | exact .inl rfl | exact .inr rfl)) (ssx_one (sx_for G (ix_any (ex_var (pv 2))) (gx_name G.nd rfl (by first | exact .inl rfl | exact .inr rfl)) (ssx_one (sx_if (bx_notIn G (EX.t (ex_and (et_var (pv 3)) (et_var (pv 4)))) (et_var (pv 2))) (ssx_one (sx_ret (ex_bl))) (ssx_nil))))))
    (ssx_one (sx_ret (ex_bl))))
/-! _law_stepped (level 1) -/
abbrev N__law_stepped : List Str := ["weights", "row", "weight", "k"]
def b__law_stepped : SW := sseq (sasgF 1 (wk kSorted (wlst (wlc (witems (wvarT 0)) [2] (tgn 2) (wtest (wb2 wGt (wvarT 2) (wc (.int 0)))) (wvar 2)))))
  (sret (wk kAll (wlst (wlc (wk kRange1 (wcons (wk kLen (wvarT 1)) (wnil))) [3] (tgn 3) (wyes) (wb2 wGt (wb2 wIx (wvarT 1) (wvarT 3)) (wk kSumX (wsl (wvarT 1) (wnop) (wop (wvar 3)))))))))
theorem sc__law_stepped : FnScope N__law_stepped ["weights"] (defScope (top 45)) := ⟨rfl, rfl, rfl, by decide +kernel, rfl, by decide +kernel, by decide +kernel⟩
theorem df__law_stepped (Y : Hy P w K mg base C) (Fe : FnIn K mg "_law_stepped" (top 45)) {spec : Spec} (run : ∀ (cs : List Cell) (b : Nat) (R : Except Er D → Nat → Prop), spec cs b R → cs.length = 1 ∧ runB 4 (b__law_stepped) cs b R) :
    DfE P w K mg base (erV C) 1 "_law_stepped" ["weights"] spec := by
  refine dfe_of (N := N__law_stepped) (k := 0) Fe sc__law_stepped (fun f fd F => F.binds (ps := ["weights"]) fun _ _ _ _ _ _ us hl => match us, hl with | [_], _ => rfl) (fun f S cdv A outer s H E hT G => ?_) run
  obtain ⟨K0, T0, on0, st0, nu0, ns0⟩ := S
  obtain rfl : T0 = erV C := hT
  exact ssx_cons (sx_asgF (i := 1) G.nd rfl (.inr rfl) (ef_sorted Y.B.sorted (EF.t (ef_lc G (own := [("weight", 2)]) rfl (ix_anyT (et_var (pv 0))) (blkOk_by (by kernel_rfl)) (fun _ _ _ _ _ => gx_name G.blk.nd rfl (by first | exact .inl rfl | exact .inr rfl)) (fun _ _ _ _ _ => tx_one (bx_gt (et_var (pv 2)) (EX.t (ex_int)))) (fun _ _ _ _ _ => ex_var (pv 2))))))
    (ssx_one (sx_ret (ex_all G Y.B.all (EF.t (ef_lc G (own := [("k", 3)]) rfl (IX.c (ix_range1 Y.B.range (lx_cons (ex_len Y.B.len (et_var (pv 1))) (lx_nil)))) (blkOk_by (by kernel_rfl)) (fun _ _ _ _ _ => gx_name G.blk.nd rfl (by first | exact .inl rfl | exact .inr rfl)) (fun _ _ _ _ _ => tx_nil) (fun _ _ _ _ _ => ex_gt (EX.t (ex_ix (et_var (pv 1)) (et_var (pv 3)))) (EX.t (ex_sumX G.blk Y.B.sum (EX.t (ex_slice (et_var (pv 1)) (ox_none) (ox_some (ex_var (pv 3)))))))))))))
/-! _law_nearly (level 1) -/
abbrev N__law_nearly : List Str := ["weights", "row", "weight", "k"]
def b__law_nearly : SW := sseq (sasgF 1 (wk kSorted (wlst (wlc (witems (wvarT 0)) [2] (tgn 2) (wtest (wb2 wGt (wvarT 2) (wc (.int 0)))) (wvar 2)))))
  (sret (wk kAll (wlst (wlc (wk kRange1 (wcons (wk kLen (wvarT 1)) (wnil))) [3] (tgn 3) (wyes) (worV (wb2 wGt (wb2 wIx (wvarT 1) (wvarT 3)) (wk kSumX (wsl (wvarT 1) (wnop) (wop (wvar 3))))) (wandV (wb2 wEq (wvarT 3) (wc (.int 1))) (wb2 wEq (wb2 wIx (wvarT 1) (wc (.int 1))) (wb2 wIx (wvarT 1) (wc (.int 0))))))))))
theorem sc__law_nearly : FnScope N__law_nearly ["weights"] (defScope (top 46)) := ⟨rfl, rfl, rfl, by decide +kernel, rfl, by decide +kernel, by decide +kernel⟩
theorem df__law_nearly (Y : Hy P w K mg base C) (Fe : FnIn K mg "_law_nearly" (top 46)) {spec : Spec} (run : ∀ (cs : List Cell) (b : Nat) (R : Except Er D → Nat → Prop), spec cs b R → cs.length = 1 ∧ runB 4 (b__law_nearly) cs b R) :
    DfE P w K mg base (erV C) 1 "_law_nearly" ["weights"] spec := by
  refine dfe_of (N := N__law_nearly) (k := 0) Fe sc__law_nearly (fun f fd F => F.binds (ps := ["weights"]) fun _ _ _ _ _ _ us hl => match us, hl with | [_], _ => rfl) (fun f S cdv A outer s H E hT G => ?_) run
  obtain ⟨K0, T0, on0, st0, nu0, ns0⟩ := S
  obtain rfl : T0 = erV C := hT
  exact ssx_cons (sx_asgF (i := 1) G.nd rfl (.inr rfl) (ef_sorted Y.B.sorted (EF.t (ef_lc G (own := [("weight", 2)]) rfl (ix_anyT (et_var (pv 0))) (blkOk_by (by kernel_rfl)) (fun _ _ _ _ _ => gx_name G.blk.nd rfl (by first | exact .inl rfl | exact .inr rfl)) (fun _ _ _ _ _ => tx_one (bx_gt (et_var (pv 2)) (EX.t (ex_int)))) (fun _ _ _ _ _ => ex_var (pv 2))))))
    (ssx_one (sx_ret (ex_all G Y.B.all (EF.t (ef_lc G (own := [("k", 3)]) rfl (IX.c (ix_range1 Y.B.range (lx_cons (ex_len Y.B.len (et_var (pv 1))) (lx_nil)))) (blkOk_by (by kernel_rfl)) (fun _ _ _ _ _ => gx_name G.blk.nd rfl (by first | exact .inl rfl | exact .inr rfl)) (fun _ _ _ _ _ => tx_nil) (fun _ _ _ _ _ => ex_orV (ex_gt (EX.t (ex_ix (et_var (pv 1)) (et_var (pv 3)))) (EX.t (ex_sumX G.blk Y.B.sum (EX.t (ex_slice (et_var (pv 1)) (ox_none) (ox_some (ex_var (pv 3)))))))) (ex_one (ex_andV (ex_eq G.blk (et_var (pv 3)) (EX.t (ex_int))) (ex_one (ex_eq G.blk (EX.t (ex_ix (et_var (pv 1)) (EX.t (ex_int)))) (EX.t (ex_ix (et_var (pv 1)) (EX.t (ex_int))))))))))))))
/-! _law_alike (level 3) -/
abbrev N__law_alike : List Str := ["weights", "ranks", "other", "least", "one"]
def b__law_alike (s__law_lowest s__law_weight : Spec) : SW := sseq (sfor (wk kRange2 (wcons (wc (.int 1)) (wcons (wb2 wShl (wc (.int 1)) (wk kLen (wvarT 0))) (wnil)))) (tgn 2)
    (sseq (sasg 3 (wcall (wconsC (warg (wvar 1)) (wconsC (warg (wvar 2)) (wnilC))) s__law_lowest))
  (sfor (wk kRange1 (wcons (wb2 wShl (wc (.int 1)) (wk kLen (wvarT 0))) (wnil))) (tgn 4)
    (sif (wtest (wb2 wNe (wb2 wGt (wcall (wconsC (warg (wvar 0)) (wconsC (warg (wb2 wAnd (wvarT 2) (wvarT 4))) (wnilC))) s__law_weight) (wcall (wconsC (warg (wvar 0)) (wconsC (warg (wb2 wAnd (wvarT 2) (wb1 (wI1 Builtin.bitNot) (wvarT 4)))) (wnilC))) s__law_weight)) (wb2 wEq (wb2 wAnd (wvarT 3) (wb1 (wI1 Builtin.bitNot) (wvarT 4))) (wc (.int 0))))) (sret (wc (.bool false))) (snil)))))
  (sret (wc (.bool true)))
theorem sc__law_alike : FnScope N__law_alike ["weights", "ranks"] (defScope (top 47)) := ⟨rfl, rfl, rfl, by decide +kernel, rfl, by decide +kernel, by decide +kernel⟩
theorem df__law_alike (Y : Hy P w K mg base C) {s__law_lowest s__law_weight : Spec} (h__law_lowest : DfE P w K mg base (erV C) 2 "_law_lowest" ["ranks", "one"] s__law_lowest) (h__law_weight : DfE P w K mg base (erV C) 1 "_law_weight" ["weights", "one"] s__law_weight) (Fe : FnIn K mg "_law_alike" (top 47)) {spec : Spec} (run : ∀ (cs : List Cell) (b : Nat) (R : Except Er D → Nat → Prop), spec cs b R → cs.length = 2 ∧ runB 5 (b__law_alike s__law_lowest s__law_weight) cs b R) :
    DfE P w K mg base (erV C) 3 "_law_alike" ["weights", "ranks"] spec := by
  refine dfe_of (N := N__law_alike) (k := 2) Fe sc__law_alike (fun f fd F => F.binds (ps := ["weights", "ranks"]) fun _ _ _ _ _ _ us hl => match us, hl with | [_, _], _ => rfl) (fun f S cdv A outer s H E hT G => ?_) run
  obtain ⟨K0, T0, on0, st0, nu0, ns0⟩ := S
  obtain rfl : T0 = erV C := hT
  exact ssx_cons (sx_for G (ix_range2 Y.B.range (lx_cons (ex_int) (lx_cons (ex_shl (EX.t (ex_int)) (EX.t (ex_len Y.B.len (et_var (pv 0))))) (lx_nil)))) (gx_name G.nd rfl (by first | exact .inl rfl | exact .inr rfl)) (ssx_cons (sx_asg (i := 3) G.nd rfl (.inl rfl) (ex_callE G h__law_lowest (by decide) (ax_cons (EX.arg (ex_var (pv 1))) (ax_cons (EX.arg (ex_var (pv 2))) (ax_nil)))))
    (ssx_one (sx_for G (ix_range1 Y.B.range (lx_cons (ex_shl (EX.t (ex_int)) (EX.t (ex_len Y.B.len (et_var (pv 0))))) (lx_nil))) (gx_name G.nd rfl (by first | exact .inl rfl | exact .inr rfl)) (ssx_one (sx_if (bx_ne G (EX.t (ex_gt (EX.t (ex_callE G h__law_weight (by decide) (ax_cons (EX.arg (ex_var (pv 0))) (ax_cons (EX.arg (ex_and (et_var (pv 2)) (et_var (pv 4)))) (ax_nil))))) (EX.t (ex_callE G h__law_weight (by decide) (ax_cons (EX.arg (ex_var (pv 0))) (ax_cons (EX.arg (ex_and (et_var (pv 2)) (EX.t (ex_inv (et_var (pv 4)))))) (ax_nil))))))) (EX.t (ex_eq G (EX.t (ex_and (et_var (pv 3)) (EX.t (ex_inv (et_var (pv 4)))))) (EX.t (ex_int))))) (ssx_one (sx_ret (ex_bl))) (ssx_nil)))))))
    (ssx_one (sx_ret (ex_bl)))
/-! _law_fits (level 6) -/
abbrev N__law_fits : List Str := ["state", "many", "weights", "kept", "parted", "other", "stepped", "due", "weight", "told", "kind", "pair", "one", "more", "rows", "wide", "heavy", "world", "first", "ranks", "dues"]
def b__law_fits (s__law_drawn_weights s__law_parts s__law_nearly s__law_stepped s__law_alike s__law_told s__law_same s__law_accepted s__law_drawn_set s__law_weight s__law_drawn_ranks : Spec) : SW := sseq (sasg 2 (wcall (wconsC (wvarC 0) (wconsC (warg (wvar 1)) (wnilC))) s__law_drawn_weights))
  (sseq (sasg 3 (wk kRepr (wvarT 2)))
  (sseq (sasg 4 (wk kAny (wlst (wlc (wk kRange2 (wcons (wc (.int 1)) (wcons (wb2 wShl (wc (.int 1)) (wvarT 1)) (wnil)))) [5] (tgn 5) (wyes) (wcall (wconsC (warg (wvar 2)) (wconsC (warg (wvar 5)) (wnilC))) s__law_parts)))))
  (sseq (sif (wtest (wb2 wEq (wvarT 4) (wcall (wconsC (warg (wvar 2)) (wnilC)) s__law_nearly))) (sret (wc (.bool false))) (snil))
  (sseq (sasg 6 (wcall (wconsC (warg (wvar 2)) (wnilC)) s__law_stepped))
  (sseq (sasg 7 (wc (.str "missing")))
  (sseq (sif (wand (fun δ => wbind ((wvarT 6) δ) wtru) (wtest (wb2 wGt (wk kMinX (wvarT 2)) (wc (.int 0))))) (sseq (sasg 7 (wtup (wcons (wc (.str "told")) (wcons (wk kTuple (wlst (wlc (witems (wvarT 2)) [8] (tgn 8) (wyes) (windex (wlst (wk kSortedRev (wvarT 2))) (wvar 8))))) (wnil)))))
  (sif (wnot (fun δ => wbind ((wcall (wconsC (warg (wvar 2)) (wconsC (warg (wb2 wIx (wvarT 7) (wc (.int 1)))) (wnilC))) s__law_alike) δ) wtru)) (sret (wc (.bool false))) (snil))) (snil))
  (sseq (sasgF 9 (wlc (witems (wlst (wlis (wcons (wc (.int 0)) (wcons (wc (.int 1)) (wcons (wc (.int 3)) (wnil))))))) [10] (tgn 10) (wyes) (wcall (wconsC (warg (wvar 10)) (wconsC (warg (wvar 1)) (wconsC (warg (wvar 2)) (wconsC (warg (wc (.int 0))) (wconsC (warg (wc (.int 0))) (wnilC)))))) s__law_told)))
  (sseq (sasg 11 (wcall (wconsC (warg (wc (.int 2))) (wconsC (warg (wvar 1)) (wconsC (warg (wvar 2)) (wconsC (warg (wc (.int 0))) (wconsC (warg (wc (.int 0))) (wnilC)))))) s__law_told))
  (sseq (sfrz 9 (sif (wor (wnot (fun δ => wbind ((wcall (wconsC (warg (wvar 9)) (wconsC (warg (wlst (wlis (wcons (wtup (wcons (wc (.str "told")) (wcons (wvar 6) (wnil)))) (wcons (wtup (wcons (wc (.str "told")) (wcons (wnotV (wvar 4)) (wnil)))) (wcons (wvar 7) (wnil))))))) (wnilC))) s__law_same) δ) wtru)) (wtest (wb2 wEq (wb2 wEq (wvarT 11) (wc (.str "missing"))) (wvarT 4)))) (sret (wc (.bool false))) (snil)))
  (sseq (sif (fun δ => wbind ((wvarT 4) δ) wtru) (sseq (sasgT (tgt 3 (tgs1 (tgn 12) (tgs1 (tgn 13) (tgs1 (tgn 5) (tgs0))))) (wb2 wIx (wvarT 11) (wc (.int 1))))
  (sseq (sasg 14 (wcall (wconsC (warg (wvar 2)) (wconsC (warg (wvar 5)) (wnilC))) s__law_accepted))
  (sseq (sasgF 15 (wlis (wcons (wb2 wAnd (wvarT 12) (wvarT 5)) (wcons (wb2 wAnd (wvarT 13) (wvarT 5)) (wnil)))))
  (sif (wor (wtest (wb2 (kIn true) (wb2 wIx (wvarT 15) (wc (.int 0))) (wvarT 14))) (wor (wtest (wb2 (kIn true) (wb2 wIx (wvarT 15) (wc (.int 1))) (wvarT 14))) (wtest (wb2 (kIn false) (wb2 wAnd (wb2 wIx (wvarT 15) (wc (.int 0))) (wb2 wIx (wvarT 15) (wc (.int 1)))) (wvarT 14))))) (sret (wc (.bool false))) (snil))))) (snil))
  (sseq (sasg 12 (wcall (wconsC (wvarC 0) (wconsC (warg (wvar 1)) (wnilC))) s__law_drawn_set))
  (sseq (sasg 5 (wcall (wconsC (wvarC 0) (wconsC (warg (wvar 1)) (wnilC))) s__law_drawn_set))
  (sseq (sasgF 16 (wlc (wk kRange1 (wcons (wvar 1) (wnil))) [17] (tgn 17) (wand (fun δ => wbind ((wb2 wAnd (wb2 wShr (wvarT 12) (wvarT 17)) (wc (.int 1))) δ) wtru) (wtest (wb2 wGt (wb2 wMulT (wc (.int 2)) (wb2 wIx (wvarT 2) (wvarT 17))) (wcall (wconsC (warg (wvar 2)) (wconsC (warg (wvar 12)) (wnilC))) s__law_weight)))) (wvar 17)))
  (sseq (sasg 18 (wc (.str "missing")))
  (sseq (sif (wtest (wb2 wGt (wk kLen (wvarT 16)) (wc (.int 0)))) (sasg 18 (wtup (wcons (wc (.str "told")) (wcons (wb2 wIx (wvarT 16) (wc (.int 0))) (wnil))))) (snil))
  (sseq (sasg 19 (wcall (wconsC (wvarC 0) (wconsC (warg (wvar 1)) (wconsC (warg (wc (.int 6))) (wnilC)))) s__law_drawn_ranks))
  (sseq (sasgF 20 (wlis (wcons (wtup (wcons (wc (.str "told")) (wcons (wb2 wGt (wcall (wconsC (warg (wvar 2)) (wconsC (warg (wb2 wAnd (wvarT 12) (wvarT 5))) (wnilC))) s__law_weight) (wcall (wconsC (warg (wvar 2)) (wconsC (warg (wb2 wAnd (wvarT 5) (wb1 (wI1 Builtin.bitNot) (wvarT 12)))) (wnilC))) s__law_weight)) (wnil)))) (wcons (wvar 18) (wcons (wtup (wcons (wc (.str "told")) (wcons (wcall (wconsC (warg (wvar 2)) (wconsC (warg (wvar 19)) (wnilC))) s__law_alike) (wnil)))) (wnil))))))
  (sfrz 20 (sret (wandV (wcall (wconsC (warg (wlst (wlis (wcons (wcall (wconsC (warg (wc (.int 4))) (wconsC (warg (wvar 1)) (wconsC (warg (wvar 2)) (wconsC (warg (wvar 12)) (wconsC (warg (wvar 5)) (wnilC)))))) s__law_told) (wcons (wcall (wconsC (warg (wc (.int 5))) (wconsC (warg (wvar 1)) (wconsC (warg (wvar 2)) (wconsC (warg (wvar 12)) (wconsC (warg (wc (.int 0))) (wnilC)))))) s__law_told) (wcons (wcall (wconsC (warg (wc (.int 6))) (wconsC (warg (wvar 1)) (wconsC (warg (wvar 2)) (wconsC (warg (wvar 19)) (wconsC (warg (wc (.int 0))) (wnilC)))))) s__law_told) (wnil))))))) (wconsC (warg (wvar 20)) (wnilC))) s__law_same) (wb2 wEq (wk kRepr (wvarT 2)) (wvarT 3))))))))))))))))))))))
theorem sc__law_fits : FnScope N__law_fits ["state", "many"] (defScope (top 48)) := ⟨rfl, rfl, rfl, by decide +kernel, rfl, by decide +kernel, by decide +kernel⟩
theorem df__law_fits (Y : Hy P w K mg base C) {s__law_drawn_weights s__law_parts s__law_nearly s__law_stepped s__law_alike s__law_told s__law_same s__law_accepted s__law_drawn_set s__law_weight s__law_drawn_ranks : Spec} (h__law_drawn_weights : DfE P w K mg base (erV C) 2 "_law_drawn_weights" ["state", "many"] s__law_drawn_weights) (h__law_parts : DfE P w K mg base (erV C) 3 "_law_parts" ["weights", "other"] s__law_parts) (h__law_nearly : DfE P w K mg base (erV C) 1 "_law_nearly" ["weights"] s__law_nearly) (h__law_stepped : DfE P w K mg base (erV C) 1 "_law_stepped" ["weights"] s__law_stepped) (h__law_alike : DfE P w K mg base (erV C) 3 "_law_alike" ["weights", "ranks"] s__law_alike) (h__law_told : DfE P w K mg base (erV C) 5 "_law_told" ["kind", "many", "weights", "one", "two"] s__law_told) (h__law_same : DfE P w K mg base (erV C) 1 "_law_same" ["told", "due"] s__law_same) (h__law_accepted : DfE P w K mg base (erV C) 2 "_law_accepted" ["weights", "other"] s__law_accepted) (h__law_drawn_set : DfE P w K mg base (erV C) 2 "_law_drawn_set" ["state", "many"] s__law_drawn_set) (h__law_weight : DfE P w K mg base (erV C) 1 "_law_weight" ["weights", "one"] s__law_weight) (h__law_drawn_ranks : DfE P w K mg base (erV C) 2 "_law_drawn_ranks" ["state", "many", "most"] s__law_drawn_ranks) (Fe : FnIn K mg "_law_fits" (top 48)) {spec : Spec} (run : ∀ (cs : List Cell) (b : Nat) (R : Except Er D → Nat → Prop), spec cs b R → cs.length = 2 ∧ runB 21 (b__law_fits s__law_drawn_weights s__law_parts s__law_nearly s__law_stepped s__law_alike s__law_told s__law_same s__law_accepted s__law_drawn_set s__law_weight s__law_drawn_ranks) cs b R) :
    DfE P w K mg base (erV C) 6 "_law_fits" ["state", "many"] spec := by
  refine dfe_of (N := N__law_fits) (k := 5) Fe sc__law_fits (fun f fd F => F.binds (ps := ["state", "many"]) fun _ _ _ _ _ _ us hl => match us, hl with | [_, _], _ => rfl) (fun f S cdv A outer s H E hT G => ?_) run
  obtain ⟨K0, T0, on0, st0, nu0, ns0⟩ := S
  obtain rfl : T0 = erV C := hT
  exact ssx_cons (sx_asg (i := 2) G.nd rfl (.inr rfl) (ex_callE G h__law_drawn_weights (by decide) (ax_cons (ec_var (pv 0)) (ax_cons (EX.arg (ex_var (pv 1))) (ax_nil)))))
    (ssx_cons (sx_asg (i := 3) G.nd rfl (.inl rfl) (ex_repr G Y.B.repr (et_var (pv 2))))
    (ssx_cons (sx_asg (i := 4) G.nd rfl (.inl rfl) (ex_any G Y.B.any (EF.t (ef_lc G (own := [("other", 5)]) rfl (IX.c (ix_range2 Y.B.range (lx_cons (ex_int) (lx_cons (ex_shl (EX.t (ex_int)) (et_var (pv 1))) (lx_nil))))) (blkOk_by (by kernel_rfl)) (fun _ _ _ _ _ => gx_name G.blk.nd rfl (by first | exact .inl rfl | exact .inr rfl)) (fun _ _ _ _ _ => tx_nil) (fun _ _ _ _ _ => ex_callE G.blk h__law_parts (by decide) (ax_cons (EX.arg (ex_var (pv 2))) (ax_cons (EX.arg (ex_var (pv 5))) (ax_nil))))))))
    (ssx_cons (sx_if (bx_eq G (et_var (pv 4)) (EX.t (ex_callE G h__law_nearly (by decide) (ax_cons (EX.arg (ex_var (pv 2))) (ax_nil))))) (ssx_one (sx_ret (ex_bl))) (ssx_nil))
    (ssx_cons (sx_asg (i := 6) G.nd rfl (.inl rfl) (ex_callE G h__law_stepped (by decide) (ax_cons (EX.arg (ex_var (pv 2))) (ax_nil))))
    (ssx_cons (sx_asg (i := 7) G.nd rfl (.inl rfl) (ex_str))
    (ssx_cons (sx_if (BW.x (bw_and (bx_tru (et_var (pv 6))) (bw_and1 (bx_gt (EX.t (ex_minX G Y.B.min (et_var (pv 2)))) (EX.t (ex_int)))))) (ssx_cons (sx_asg (i := 7) G.nd rfl (.inl rfl) (ex_tup (lx_cons (ex_str) (lx_cons (ex_tuple Y.B.tuple (EF.t (ef_lc G (own := [("weight", 8)]) rfl (ix_anyT (et_var (pv 2))) (blkOk_by (by kernel_rfl)) (fun _ _ _ _ _ => gx_name G.blk.nd rfl (by first | exact .inl rfl | exact .inr rfl)) (fun _ _ _ _ _ => tx_nil) (fun _ _ _ _ _ => ex_index (EF.t (ef_sortedRev Y.B.sorted (et_var (pv 2)))) (ex_var (pv 8)))))) (lx_nil)))))
    (ssx_one (sx_if (bx_not (bx_tru (EX.t (ex_callE G h__law_alike (by decide) (ax_cons (EX.arg (ex_var (pv 2))) (ax_cons (EX.arg (ex_ix (et_var (pv 7)) (EX.t (ex_int)))) (ax_nil))))))) (ssx_one (sx_ret (ex_bl))) (ssx_nil)))) (ssx_nil))
    (ssx_cons (sx_asgLcF G (own := [("kind", 10)]) rfl (i := 9) rfl rfl (sw_true rfl rfl rfl (by decide +kernel)) (ix_anyT (EF.t (ef_lst (lx_cons (ex_int) (lx_cons (ex_int) (lx_cons (ex_int) (lx_nil))))))) (blkOk_by (by kernel_rfl)) (fun _ _ _ _ _ => gx_name G.blk.nd rfl (by first | exact .inl rfl | exact .inr rfl)) (fun _ _ _ _ _ => tx_nil) (fun _ _ _ _ _ => ex_callE G.blk h__law_told (by decide) (ax_cons (EX.arg (ex_var (pv 10))) (ax_cons (EX.arg (ex_var (pv 1))) (ax_cons (EX.arg (ex_var (pv 2))) (ax_cons (EX.arg (ex_int)) (ax_cons (EX.arg (ex_int)) (ax_nil))))))))
    (ssx_cons (sx_asg (i := 11) G.nd rfl (.inl rfl) (ex_callE G h__law_told (by decide) (ax_cons (EX.arg (ex_int)) (ax_cons (EX.arg (ex_var (pv 1))) (ax_cons (EX.arg (ex_var (pv 2))) (ax_cons (EX.arg (ex_int)) (ax_cons (EX.arg (ex_int)) (ax_nil))))))))
    (ssx_cons (sx_frz 9 (sx_if (BW.x (bw_or (bx_not (bx_tru (EX.t (ex_callE G h__law_same (by decide) (ax_cons (EX.arg (ex_var (pv 9))) (ax_cons (EX.arg (EF.v (ef_lst (lx_cons (ex_tup (lx_cons (ex_str) (lx_cons (ex_var (pv 6)) (lx_nil)))) (lx_cons (ex_tup (lx_cons (ex_str) (lx_cons (ex_notV (ex_var (pv 4))) (lx_nil)))) (lx_cons (ex_var (pv 7)) (lx_nil))))))) (ax_nil))))))) (bw_or1 (bx_eq G (EX.t (ex_eq G (et_var (pv 11)) (EX.t (ex_str)))) (et_var (pv 4)))))) (ssx_one (sx_ret (ex_bl))) (ssx_nil)))
    (ssx_cons (sx_if (bx_tru (et_var (pv 4))) (ssx_cons (sx_asgT (gx_tup G.calm (gxs_cons (gx_name G.nd rfl (by first | exact .inl rfl | exact .inr rfl)) (gxs_cons (gx_name G.nd rfl (by first | exact .inl rfl | exact .inr rfl)) (gxs_cons (gx_name G.nd rfl (by first | exact .inl rfl | exact .inr rfl)) (gxs_nil))))) (ex_ix (et_var (pv 11)) (EX.t (ex_int))))
    (ssx_cons (sx_asg (i := 14) G.nd rfl (.inl rfl) (ex_callE G h__law_accepted (by decide) (ax_cons (EX.arg (ex_var (pv 2))) (ax_cons (EX.arg (ex_var (pv 5))) (ax_nil)))))
    (ssx_cons (sx_asgF (i := 15) G.nd rfl (.inl rfl) (ef_lst (lx_cons (ex_and (et_var (pv 12)) (et_var (pv 5))) (lx_cons (ex_and (et_var (pv 13)) (et_var (pv 5))) (lx_nil)))))
    (ssx_one (sx_if (BW.x (bw_or (bx_notIn G (EX.t (ex_ix (et_var (pv 15)) (EX.t (ex_int)))) (et_var (pv 14))) (bw_or (bx_notIn G (EX.t (ex_ix (et_var (pv 15)) (EX.t (ex_int)))) (et_var (pv 14))) (bw_or1 (bx_in G (EX.t (ex_and (EX.t (ex_ix (et_var (pv 15)) (EX.t (ex_int)))) (EX.t (ex_ix (et_var (pv 15)) (EX.t (ex_int)))))) (et_var (pv 14))))))) (ssx_one (sx_ret (ex_bl))) (ssx_nil)))))) (ssx_nil))
    (ssx_cons (sx_asg (i := 12) G.nd rfl (.inr rfl) (ex_callE G h__law_drawn_set (by decide) (ax_cons (ec_var (pv 0)) (ax_cons (EX.arg (ex_var (pv 1))) (ax_nil)))))
    (ssx_cons (sx_asg (i := 5) G.nd rfl (.inl rfl) (ex_callE G h__law_drawn_set (by decide) (ax_cons (ec_var (pv 0)) (ax_cons (EX.arg (ex_var (pv 1))) (ax_nil)))))
    (ssx_cons (sx_asgLcF G (own := [("world", 17)]) rfl (i := 16) rfl rfl (sw_true rfl rfl rfl (by decide +kernel)) (IX.c (ix_range1 Y.B.range (lx_cons (ex_var (pv 1)) (lx_nil)))) (blkOk_by (by kernel_rfl)) (fun _ _ _ _ _ => gx_name G.blk.nd rfl (by first | exact .inl rfl | exact .inr rfl)) (fun _ _ _ _ _ => tx_one (BW.x (bw_and (bx_tru (EX.t (ex_and (EX.t (ex_shr (et_var (pv 12)) (et_var (pv 17)))) (EX.t (ex_int))))) (bw_and1 (bx_gt (EX.t (ex_mulT (EX.t (ex_int)) (EX.t (ex_ix (et_var (pv 2)) (et_var (pv 17)))))) (EX.t (ex_callE G.blk h__law_weight (by decide) (ax_cons (EX.arg (ex_var (pv 2))) (ax_cons (EX.arg (ex_var (pv 12))) (ax_nil)))))))))) (fun _ _ _ _ _ => ex_var (pv 17)))
    (ssx_cons (sx_asg (i := 18) G.nd rfl (.inl rfl) (ex_str))
    (ssx_cons (sx_if (bx_gt (EX.t (ex_len Y.B.len (et_var (pv 16)))) (EX.t (ex_int))) (ssx_one (sx_asg (i := 18) G.nd rfl (.inl rfl) (ex_tup (lx_cons (ex_str) (lx_cons (ex_ix (et_var (pv 16)) (EX.t (ex_int))) (lx_nil)))))) (ssx_nil))
    (ssx_cons (sx_asg (i := 19) G.nd rfl (.inl rfl) (ex_callE G h__law_drawn_ranks (by decide) (ax_cons (ec_var (pv 0)) (ax_cons (EX.arg (ex_var (pv 1))) (ax_cons (EX.arg (ex_int)) (ax_nil))))))
    (ssx_cons (sx_asgF (i := 20) G.nd rfl (.inl rfl) (ef_lst (lx_cons (ex_tup (lx_cons (ex_str) (lx_cons (ex_gt (EX.t (ex_callE G h__law_weight (by decide) (ax_cons (EX.arg (ex_var (pv 2))) (ax_cons (EX.arg (ex_and (et_var (pv 12)) (et_var (pv 5)))) (ax_nil))))) (EX.t (ex_callE G h__law_weight (by decide) (ax_cons (EX.arg (ex_var (pv 2))) (ax_cons (EX.arg (ex_and (et_var (pv 5)) (EX.t (ex_inv (et_var (pv 12)))))) (ax_nil)))))) (lx_nil)))) (lx_cons (ex_var (pv 18)) (lx_cons (ex_tup (lx_cons (ex_str) (lx_cons (ex_callE G h__law_alike (by decide) (ax_cons (EX.arg (ex_var (pv 2))) (ax_cons (EX.arg (ex_var (pv 19))) (ax_nil)))) (lx_nil)))) (lx_nil))))))
    (ssx_one (sx_frz 20 (sx_ret (ex_andV (ex_callE G h__law_same (by decide) (ax_cons (EX.arg (EF.v (ef_lst (lx_cons (ex_callE G h__law_told (by decide) (ax_cons (EX.arg (ex_int)) (ax_cons (EX.arg (ex_var (pv 1))) (ax_cons (EX.arg (ex_var (pv 2))) (ax_cons (EX.arg (ex_var (pv 12))) (ax_cons (EX.arg (ex_var (pv 5))) (ax_nil))))))) (lx_cons (ex_callE G h__law_told (by decide) (ax_cons (EX.arg (ex_int)) (ax_cons (EX.arg (ex_var (pv 1))) (ax_cons (EX.arg (ex_var (pv 2))) (ax_cons (EX.arg (ex_var (pv 12))) (ax_cons (EX.arg (ex_int)) (ax_nil))))))) (lx_cons (ex_callE G h__law_told (by decide) (ax_cons (EX.arg (ex_int)) (ax_cons (EX.arg (ex_var (pv 1))) (ax_cons (EX.arg (ex_var (pv 2))) (ax_cons (EX.arg (ex_var (pv 19))) (ax_cons (EX.arg (ex_int)) (ax_nil))))))) (lx_nil))))))) (ax_cons (EX.arg (ex_var (pv 20))) (ax_nil)))) (ex_one (ex_eq G (EX.t (ex_repr G Y.B.repr (et_var (pv 2)))) (et_var (pv 3)))))))))))))))))))))))))
/-! _law_from_ranks (level 6) -/
abbrev N__law_from_ranks : List Str := ["state", "many", "row", "world", "low", "k", "at", "ranks", "rank", "told", "due"]
def b__law_from_ranks (s__law_next s__law_told s__law_same s__law_alike : Spec) : SW := sseq (sasgF 2 (wlc (wk kRange1 (wcons (wvar 1) (wnil))) [3] (tgn 3) (wyes) (wb2 wAdd (wb2 wMulT (wc (.int 3)) (wvarT 3)) (wcall (wconsC (wvarC 0) (wconsC (warg (wc (.int 3))) (wnilC))) s__law_next))))
  (sseq (sasg 4 (wk kMin (wvarT 2)))
  (sseq (sfor (wk kRange1 (wcons (wb2 wSub (wvarT 1) (wc (.int 1))) (wnil))) (tgn 5)
    (sseq (sasg 6 (wb2 wAdd (wvarT 5) (wcall (wconsC (wvarC 0) (wconsC (warg (wb2 wSub (wvarT 1) (wvarT 5))) (wnilC))) s__law_next)))
  (sset2 2 (wcons (wb2 wIx (wvarT 2) (wvarT 6)) (wcons (wb2 wIx (wvarT 2) (wvarT 5)) (wnil))) (wvar 5) (wvar 6))))
  (sseq (sasg 7 (wk kTuple (wlst (wlc (witems (wvarT 2)) [8] (tgn 8) (wyes) (wb2 wSub (wvarT 8) (wvarT 4))))))
  (sseq (sasg 9 (wcall (wconsC (warg (wc (.int 7))) (wconsC (warg (wvar 1)) (wconsC (warg (wvar 7)) (wconsC (warg (wc (.int 0))) (wconsC (warg (wc (.int 0))) (wnilC)))))) s__law_told))
  (sseq (sasg 10 (wk kTuple (wlst (wlc (witems (wvarT 7)) [8] (tgn 8) (wyes) (wb2 wShl (wc (.int 1)) (windex (wlst (wk kSortedRev (wvarT 7))) (wvar 8)))))))
  (sseq (sif (wnot (fun δ => wbind ((wcall (wconsC (warg (wvar 9)) (wconsC (warg (wtup (wcons (wc (.str "told")) (wcons (wvar 10) (wnil))))) (wnilC))) s__law_same) δ) wtru)) (sret (wc (.bool false))) (snil))
  (sseq (sif (wand (wtest (wb2 wLe (wvarT 1) (wc (.int 5)))) (wnot (fun δ => wbind ((wcall (wconsC (warg (wvar 10)) (wconsC (warg (wvar 7)) (wnilC))) s__law_alike) δ) wtru))) (sret (wc (.bool false))) (snil))
  (sret (worV (wb2 wLt (wvarT 1) (wc (.int 2))) (wb2 wEq (wcall (wconsC (warg (wc (.int 7))) (wconsC (warg (wvar 1)) (wconsC (warg (wb2 wAdd (wsl (wvarT 7) (wnop) (wop (wb1 (wI1 fun i => -i) (wc (.int 1))))) (wsl (wvarT 7) (wnop) (wop (wc (.int 1)))))) (wconsC (warg (wc (.int 0))) (wconsC (warg (wc (.int 0))) (wnilC)))))) s__law_told) (wc (.str "refused"))))))))))))
theorem sc__law_from_ranks : FnScope N__law_from_ranks ["state", "many"] (defScope (top 49)) := ⟨rfl, rfl, rfl, by decide +kernel, rfl, by decide +kernel, by decide +kernel⟩
theorem df__law_from_ranks (Y : Hy P w K mg base C) {s__law_next s__law_told s__law_same s__law_alike : Spec} (h__law_next : DfE P w K mg base (erV C) 1 "_law_next" ["state", "many"] s__law_next) (h__law_told : DfE P w K mg base (erV C) 5 "_law_told" ["kind", "many", "weights", "one", "two"] s__law_told) (h__law_same : DfE P w K mg base (erV C) 1 "_law_same" ["told", "due"] s__law_same) (h__law_alike : DfE P w K mg base (erV C) 3 "_law_alike" ["weights", "ranks"] s__law_alike) (Fe : FnIn K mg "_law_from_ranks" (top 49)) {spec : Spec} (run : ∀ (cs : List Cell) (b : Nat) (R : Except Er D → Nat → Prop), spec cs b R → cs.length = 2 ∧ runB 11 (b__law_from_ranks s__law_next s__law_told s__law_same s__law_alike) cs b R) :
    DfE P w K mg base (erV C) 6 "_law_from_ranks" ["state", "many"] spec := by
  refine dfe_of (N := N__law_from_ranks) (k := 5) Fe sc__law_from_ranks (fun f fd F => F.binds (ps := ["state", "many"]) fun _ _ _ _ _ _ us hl => match us, hl with | [_, _], _ => rfl) (fun f S cdv A outer s H E hT G => ?_) run
  obtain ⟨K0, T0, on0, st0, nu0, ns0⟩ := S
  obtain rfl : T0 = erV C := hT
  exact ssx_cons (sx_asgLcF G (own := [("world", 3)]) rfl (i := 2) rfl rfl (sw_true rfl rfl rfl (by decide +kernel)) (IX.c (ix_range1 Y.B.range (lx_cons (ex_var (pv 1)) (lx_nil)))) (blkOk_by (by kernel_rfl)) (fun _ _ _ _ _ => gx_name G.blk.nd rfl (by first | exact .inl rfl | exact .inr rfl)) (fun _ _ _ _ _ => tx_nil) (fun _ _ _ _ _ => ex_add (EX.t (ex_mulT (EX.t (ex_int)) (et_var (pv 3)))) (EX.t (ex_callE G.blk h__law_next (by decide) (ax_cons (ec_var (pv 0)) (ax_cons (EX.arg (ex_int)) (ax_nil)))))))
    (ssx_cons (sx_asg (i := 4) G.nd rfl (.inr rfl) (ex_min G Y.B.min (et_var (pv 2))))
    (ssx_cons (sx_for G (ix_range1 Y.B.range (lx_cons (ex_sub (et_var (pv 1)) (EX.t (ex_int))) (lx_nil))) (gx_name G.nd rfl (by first | exact .inl rfl | exact .inr rfl)) (ssx_cons (sx_asg (i := 6) G.nd rfl (.inl rfl) (ex_add (et_var (pv 5)) (EX.t (ex_callE G h__law_next (by decide) (ax_cons (ec_var (pv 0)) (ax_cons (EX.arg (ex_sub (et_var (pv 1)) (et_var (pv 5)))) (ax_nil)))))))
    (ssx_one (sx_set2 (i := 2) G (pv 2) (pv 2) (ex_var (pv 5)) (ex_var (pv 6)) (lx_cons (ex_ix (et_var (pv 2)) (et_var (pv 6))) (lx_cons (ex_ix (et_var (pv 2)) (et_var (pv 5))) (lx_nil)))))))
    (ssx_cons (sx_asg (i := 7) G.nd rfl (.inr rfl) (ex_tuple Y.B.tuple (EF.t (ef_lc G (own := [("rank", 8)]) rfl (ix_anyT (et_var (pv 2))) (blkOk_by (by kernel_rfl)) (fun _ _ _ _ _ => gx_name G.blk.nd rfl (by first | exact .inl rfl | exact .inr rfl)) (fun _ _ _ _ _ => tx_nil) (fun _ _ _ _ _ => ex_sub (et_var (pv 8)) (et_var (pv 4)))))))
    (ssx_cons (sx_asg (i := 9) G.nd rfl (.inl rfl) (ex_callE G h__law_told (by decide) (ax_cons (EX.arg (ex_int)) (ax_cons (EX.arg (ex_var (pv 1))) (ax_cons (EX.arg (ex_var (pv 7))) (ax_cons (EX.arg (ex_int)) (ax_cons (EX.arg (ex_int)) (ax_nil))))))))
    (ssx_cons (sx_asg (i := 10) G.nd rfl (.inl rfl) (ex_tuple Y.B.tuple (EF.t (ef_lc G (own := [("rank", 8)]) rfl (ix_anyT (et_var (pv 7))) (blkOk_by (by kernel_rfl)) (fun _ _ _ _ _ => gx_name G.blk.nd rfl (by first | exact .inl rfl | exact .inr rfl)) (fun _ _ _ _ _ => tx_nil) (fun _ _ _ _ _ => ex_shl (EX.t (ex_int)) (EX.t (ex_index (EF.t (ef_sortedRev Y.B.sorted (et_var (pv 7)))) (ex_var (pv 8)))))))))
    (ssx_cons (sx_if (bx_not (bx_tru (EX.t (ex_callE G h__law_same (by decide) (ax_cons (EX.arg (ex_var (pv 9))) (ax_cons (EX.arg (ex_tup (lx_cons (ex_str) (lx_cons (ex_var (pv 10)) (lx_nil))))) (ax_nil))))))) (ssx_one (sx_ret (ex_bl))) (ssx_nil))
    (ssx_cons (sx_if (BW.x (bw_and (bx_le (et_var (pv 1)) (EX.t (ex_int))) (bw_and1 (bx_not (bx_tru (EX.t (ex_callE G h__law_alike (by decide) (ax_cons (EX.arg (ex_var (pv 10))) (ax_cons (EX.arg (ex_var (pv 7))) (ax_nil)))))))))) (ssx_one (sx_ret (ex_bl))) (ssx_nil))
    (ssx_one (sx_ret (ex_orV (ex_lt (et_var (pv 1)) (EX.t (ex_int))) (ex_one (ex_eq G (EX.t (ex_callE G h__law_told (by decide) (ax_cons (EX.arg (ex_int)) (ax_cons (EX.arg (ex_var (pv 1))) (ax_cons (EX.arg (ex_add (EX.t (ex_slice (et_var (pv 7)) (ox_none) (ox_some (ex_neg (EX.t (ex_int)))))) (EX.t (ex_slice (et_var (pv 7)) (ox_none) (ox_some (ex_int)))))) (ax_cons (EX.arg (ex_int)) (ax_cons (EX.arg (ex_int)) (ax_nil)))))))) (EX.t (ex_str))))))))))))))
/-! law (level 7) -/
abbrev N_law : List Str := ["script", "state", "turn", "seven", "ranks", "told"]
def b_law (s__law_fits s__law_next s__law_from_ranks s__law_told : Spec) : SW := sseq (sfor (wk kRange1 (wcons (wc (.int 4)) (wnil))) (tgn 2)
    (sif (wor (wnot (fun δ => wbind ((wcall (wconsC (wvarC 1) (wconsC (warg (wb2 wAdd (wc (.int 1)) (wcall (wconsC (wvarC 1) (wconsC (warg (wc (.int 4))) (wnilC))) s__law_next))) (wnilC))) s__law_fits) δ) wtru)) (wnot (fun δ => wbind ((wcall (wconsC (wvarC 1) (wconsC (warg (wb2 wIx (wlst (wlis (wcons (wc (.int 18)) (wcons (wb2 wAdd (wc (.int 1)) (wcall (wconsC (wvarC 1) (wconsC (warg (wc (.int 5))) (wnilC))) s__law_next)) (wnil))))) (wcall (wconsC (wvarC 1) (wconsC (warg (wc (.int 2))) (wnilC))) s__law_next))) (wnilC))) s__law_from_ranks) δ) wtru))) (sret (wc (.bool false))) (snil)))
  (sseq (sif (wand (wtest (wb2 wEq (wcall (wconsC (wvarC 1) (wconsC (warg (wc (.int 6))) (wnilC))) s__law_next) (wc (.int 0)))) (wnot (fun δ => wbind ((wcall (wconsC (wvarC 1) (wconsC (warg (wc (.int 5))) (wnilC))) s__law_fits) δ) wtru))) (sret (wc (.bool false))) (snil))
  (sseq (sasg 3 (wtup (wcons (wc (.int 1)) (wcons (wc (.int 2)) (wcons (wc (.int 4)) (wcons (wc (.int 8)) (wcons (wc (.int 16)) (wcons (wc (.int 32)) (wcons (wc (.int 64)) (wnil))))))))))
  (sseq (sasg 4 (wTupRg (wk kRg1 (wc (.int 19)))))
  (sseq (sasgF 5 (wlis (wcons (wcall (wconsC (warg (wc (.int 1))) (wconsC (warg (wc (.int 7))) (wconsC (warg (wvar 3)) (wconsC (warg (wc (.int 0))) (wconsC (warg (wc (.int 0))) (wnilC)))))) s__law_told) (wcons (wcall (wconsC (warg (wc (.int 2))) (wconsC (warg (wc (.int 7))) (wconsC (warg (wvar 3)) (wconsC (warg (wc (.int 0))) (wconsC (warg (wc (.int 0))) (wnilC)))))) s__law_told) (wcons (wcall (wconsC (warg (wc (.int 6))) (wconsC (warg (wc (.int 7))) (wconsC (warg (wvar 3)) (wconsC (warg (wsl (wvarT 4) (wnop) (wop (wc (.int 7))))) (wconsC (warg (wc (.int 0))) (wnilC)))))) s__law_told) (wcons (wcall (wconsC (warg (wc (.int 7))) (wconsC (warg (wc (.int 19))) (wconsC (warg (wvar 4)) (wconsC (warg (wc (.int 0))) (wconsC (warg (wc (.int 0))) (wnilC)))))) s__law_told) (wcons (wcall (wconsC (warg (wc (.int 7))) (wconsC (warg (wc (.int 2))) (wconsC (warg (wtup (wcons (wc (.int 1)) (wcons (wc (.int 1)) (wnil))))) (wconsC (warg (wc (.int 0))) (wconsC (warg (wc (.int 0))) (wnilC)))))) s__law_told) (wcons (wcall (wconsC (warg (wc (.int 0))) (wconsC (warg (wc (.int 2))) (wconsC (warg (wtup (wcons (wc (.int 0)) (wcons (wc (.int 0)) (wnil))))) (wconsC (warg (wc (.int 0))) (wconsC (warg (wc (.int 0))) (wnilC)))))) s__law_told) (wcons (wcall (wconsC (warg (wc (.int 4))) (wconsC (warg (wc (.int 2))) (wconsC (warg (wtup (wcons (wc (.int 1)) (wcons (wc (.int 1)) (wnil))))) (wconsC (warg (wc (.int 4))) (wconsC (warg (wc (.int 1))) (wnilC)))))) s__law_told) (wcons (wcall (wconsC (warg (wc (.int 6))) (wconsC (warg (wc (.int 2))) (wconsC (warg (wtup (wcons (wc (.int 1)) (wcons (wc (.int 1)) (wnil))))) (wconsC (warg (wtup (wcons (wc (.int 1)) (wcons (wc (.int 1)) (wnil))))) (wconsC (warg (wc (.int 0))) (wnilC)))))) s__law_told) (wcons (wcall (wconsC (warg (wc (.int 5))) (wconsC (warg (wc (.int 2))) (wconsC (warg (wtup (wcons (wc (.int 1)) (wcons (wc (.int 1)) (wnil))))) (wconsC (warg (wc (.int 0))) (wconsC (warg (wc (.int 0))) (wnilC)))))) s__law_told) (wnil))))))))))))
  (sret (wandV (wb2 wEq (wvarT 5) (wb2 wAdd (wb2 wAdd (wlst (wrep (wlis (wcons (wc (.str "large")) (wnil))) (wc (.int 4)))) (wlst (wrep (wlis (wcons (wc (.str "refused")) (wnil))) (wc (.int 4))))) (wlst (wlis (wcons (wc (.str "missing")) (wnil)))))) (wb2 wEq (wc (.int 18)) (wc (.int 18)))))))))
theorem sc_law : FnScope N_law ["script"] (defScope (top 50)) := ⟨rfl, rfl, rfl, by decide +kernel, rfl, by decide +kernel, by decide +kernel⟩
/-! _law_next (level 1) -/
theorem sc__law_next : FnScope ["state", "many", "turn"] ["state", "many"] (defScope (top 34)) := ⟨rfl, rfl, rfl, by decide +kernel, rfl, by decide +kernel, by decide +kernel⟩
theorem df__law_next (Y : Hy P w K mg base C) (Fe : FnIn K mg "_law_next" (top 34)) : DfE P w K mg base (erV C) 1 "_law_next" ["state", "many"] specNext := by
  obtain ⟨f, fd, F, hm⟩ := Fe
  refine ⟨f, fd, ⟨fng_of F sc__law_next (fun vs H Q E h => h.1) fun cdv A outer s H vs Q E room gd h => ⟨t_next K, ?_, read_next h⟩, hm, F.kp, F.binds (ps := ["state", "many"]) fun _ _ _ _ _ _ us hl => match us, hl with | [_, _], _ => rfl⟩, fun b R cs ⟨m, e, _⟩ => by rw [e]; rfl⟩
  exact pss_cons (ps_asg (pe_op op_add (pe_ix ix_list (pv 0) (pe_int) (fun _ _ => rfl)) pe_int) (pg_sub (pv 0) pe_int set_list))
    (pss_cons (ps_asg (pe_op op_fdivW (pe_ix ix_list (pv 0) (pe_int) (fun _ _ => rfl)) (pe_callB call_len rfl Y.B.len rfl (pa_cons (pe_ix ix_list (pv 0) (pe_int) (fun _ _ => rfl)) pa_nil))) (pg_name sc__law_next.nd rfl (.inl rfl) (.inr rfl)))
      (pss_one (ps_ret (pe_op op_mod (pe_callTy call_int1 rfl Y.B.int rfl (pa_cons (pe_op op_add (pe_op op_add (pe_ix ix_list (pe_ix ix_list (pv 0) (pe_int) (fun _ _ => rfl)) (pe_op op_mod (pe_ix ix_list (pv 0) (pe_int) (fun _ _ => rfl)) (pe_callB call_len rfl Y.B.len rfl (pa_cons (pe_ix ix_list (pv 0) (pe_int) (fun _ _ => rfl)) pa_nil))) (fun _ _ => rfl)) (pe_op op_mulX (pv 2) pe_int)) (pe_op op_mulX (pe_op op_mulX (pe_ix ix_list (pv 0) (pe_int) (fun _ _ => rfl)) (pv 2)) pe_int)) pa_nil)) (pv 1)))))
/-! _law_error (level 1) -/
theorem sc__law_error : FnScope ["e", "names"] ["e"] (defScope (top 35)) := ⟨rfl, rfl, rfl, by decide +kernel, rfl, by decide +kernel, by decide +kernel⟩
theorem fe__law_error (Y : Hy P w K mg base C) (Fe : FnIn K mg "_law_error" (top 35)) {cv : Value} (hc : mg "MindError" = some cv) (hx : ∀ er, PySem.W.exmOne K (erV C er) cv = some true) : ErrFn P w K mg base C := by
  obtain ⟨f, fd, F, hm⟩ := Fe
  refine ⟨f, fd, fne_of F sc__law_error Y.er fun er cdv A outer s H p hot hp hz hd => ?_, F.binds (ps := ["e"]) fun _ _ _ _ _ _ us hl => match us, hl with | [_], _ => rfl, F.kp, hm, cv, hc, hx⟩
  have is : CallR (BB.hx P w K mg base ["e", "names"] "_law_error" (top 35) f cdv A outer s H p) (.builtin "isinstance") (rIsE K (C (erIx er)) p.1) := cr_isP (X := BB.hx P w K mg base ["e", "names"] "_law_error" (top 35) f cdv A outer s H p) (Y.er.x _ (erIx_lt er)) hp hz hd
  exact pss_cons (ps_asg (pe_lst (pa_cons (pe_callB is rfl Y.B.isinstance rfl (pa_cons (pv 0) (pa_cons (pe_glob (v := .ref (C 0)) rfl Y.er.g0 rfl) pa_nil))) (pa_cons (pe_callB is rfl Y.B.isinstance rfl (pa_cons (pv 0) (pa_cons (pe_glob (v := .ref (C 1)) rfl Y.er.g1 rfl) pa_nil))) (pa_cons (pe_callB is rfl Y.B.isinstance rfl (pa_cons (pv 0) (pa_cons (pe_glob (v := .ref (C 2)) rfl Y.er.g2 rfl) pa_nil))) (pa_cons (pe_callB is rfl Y.B.isinstance rfl (pa_cons (pv 0) (pa_cons (pe_glob (v := .ref (C 3)) rfl Y.er.g3 rfl) pa_nil))) (pa_cons (pe_callB is rfl Y.B.isinstance rfl (pa_cons (pv 0) (pa_cons (pe_glob (v := .ref (C 4)) rfl Y.er.g4 rfl) pa_nil))) (pa_nil))))))) (pg_name sc__law_error.nd rfl (.inl rfl) (.inr rfl)))
    (pss_cons (ps_if (pt_cmpR op_ne (pe_callB (cr_sumHot hot) rfl Y.B.sum rfl (pa_cons (pe_intsHot (i := 1) hot rfl (.inl rfl) Y.B.int (by decide +kernel) (by decide +kernel) rfl (by decide +kernel) rfl rfl (by decide) (by decide) (by decide)) pa_nil)) pe_int (nomark _)) (pss_one (ps_ret pe_str)) pss_nil)
      (pss_one (ps_ret (pe_ix ix_list (pe_lst (pa_cons pe_str (pa_cons pe_str (pa_cons pe_str (pa_cons pe_str (pa_cons pe_str pa_nil)))))) (pe_bm PySem.F.plainAttrs_list PySem.F.slot_list_index PySem.F.type_list_index mt_index (pv 1) (pa_cons pe_bl pa_nil)) (fun _ _ => rfl)))))
/-! law -/
theorem ss_law (Y : Hy P w K mg base C) {s__law_fits s__law_next s__law_from_ranks s__law_told : Spec} (h__law_fits : DfE P w K mg base (erV C) 6 "_law_fits" ["state", "many"] s__law_fits) (h__law_next : DfE P w K mg base (erV C) 1 "_law_next" ["state", "many"] s__law_next) (h__law_from_ranks : DfE P w K mg base (erV C) 6 "_law_from_ranks" ["state", "many"] s__law_from_ranks) (h__law_told : DfE P w K mg base (erV C) 5 "_law_told" ["kind", "many", "weights", "one", "two"] s__law_told) (f : Addr) (S : Sg) (cdv : Value) (A : Around) (outer : List PySem.Env) (s : Shared) (H : Hp) (E : XK) (hT : S.cls = erV C) (on : S.on = true) (G : Cxt (bx P w K mg base N_law "law" (top 50) f cdv A outer s H E) S (bw E) 6) :
    SSX (bx P w K mg base N_law "law" (top 50) f cdv A outer s H E) S (bw E) (defBody (top 50)).tail (b_law s__law_fits s__law_next s__law_from_ranks s__law_told) := by
  obtain ⟨K0, T0, on0, st0, nu0, ns0⟩ := S
  obtain rfl : T0 = erV C := hT
  exact ssx_cons (sx_for G (ix_range1 Y.B.range (lx_cons (ex_int) (lx_nil))) (gx_name G.nd rfl (by first | exact .inl rfl | exact .inr rfl)) (ssx_one (sx_if (BW.x (bw_or (bx_not (bx_tru (EX.t (ex_callE G h__law_fits (by decide) (ax_cons (ec_var (pv 1)) (ax_cons (EX.arg (ex_add (EX.t (ex_int)) (EX.t (ex_callE G h__law_next (by decide) (ax_cons (ec_var (pv 1)) (ax_cons (EX.arg (ex_int)) (ax_nil))))))) (ax_nil))))))) (bw_or1 (bx_not (bx_tru (EX.t (ex_callE G h__law_from_ranks (by decide) (ax_cons (ec_var (pv 1)) (ax_cons (EX.arg (ex_ix (EF.t (ef_lst (lx_cons (ex_int) (lx_cons (ex_add (EX.t (ex_int)) (EX.t (ex_callE G h__law_next (by decide) (ax_cons (ec_var (pv 1)) (ax_cons (EX.arg (ex_int)) (ax_nil)))))) (lx_nil))))) (EX.t (ex_callE G h__law_next (by decide) (ax_cons (ec_var (pv 1)) (ax_cons (EX.arg (ex_int)) (ax_nil))))))) (ax_nil)))))))))) (ssx_one (sx_ret (ex_bl))) (ssx_nil))))
    (ssx_cons (sx_if (BW.x (bw_and (bx_eq G (EX.t (ex_callE G h__law_next (by decide) (ax_cons (ec_var (pv 1)) (ax_cons (EX.arg (ex_int)) (ax_nil))))) (EX.t (ex_int))) (bw_and1 (bx_not (bx_tru (EX.t (ex_callE G h__law_fits (by decide) (ax_cons (ec_var (pv 1)) (ax_cons (EX.arg (ex_int)) (ax_nil)))))))))) (ssx_one (sx_ret (ex_bl))) (ssx_nil))
    (ssx_cons (sx_asg (i := 3) G.nd rfl (.inl rfl) (ex_tup (lx_cons (ex_int) (lx_cons (ex_int) (lx_cons (ex_int) (lx_cons (ex_int) (lx_cons (ex_int) (lx_cons (ex_int) (lx_cons (ex_int) (lx_nil))))))))))
    (ssx_cons (sx_asg (i := 4) G.nd rfl (.inl rfl) (ex_tupRg G Y.B.tuple (rx_1 Y.B.range (EX.t (ex_int)))))
    (ssx_cons (sx_asgF (i := 5) G.nd rfl (.inl rfl) (ef_lst (lx_cons (ex_callE G h__law_told (by decide) (ax_cons (EX.arg (ex_int)) (ax_cons (EX.arg (ex_int)) (ax_cons (EX.arg (ex_var (pv 3))) (ax_cons (EX.arg (ex_int)) (ax_cons (EX.arg (ex_int)) (ax_nil))))))) (lx_cons (ex_callE G h__law_told (by decide) (ax_cons (EX.arg (ex_int)) (ax_cons (EX.arg (ex_int)) (ax_cons (EX.arg (ex_var (pv 3))) (ax_cons (EX.arg (ex_int)) (ax_cons (EX.arg (ex_int)) (ax_nil))))))) (lx_cons (ex_callE G h__law_told (by decide) (ax_cons (EX.arg (ex_int)) (ax_cons (EX.arg (ex_int)) (ax_cons (EX.arg (ex_var (pv 3))) (ax_cons (EX.arg (ex_slice (et_var (pv 4)) (ox_none) (ox_some (ex_int)))) (ax_cons (EX.arg (ex_int)) (ax_nil))))))) (lx_cons (ex_callE G h__law_told (by decide) (ax_cons (EX.arg (ex_int)) (ax_cons (EX.arg (ex_int)) (ax_cons (EX.arg (ex_var (pv 4))) (ax_cons (EX.arg (ex_int)) (ax_cons (EX.arg (ex_int)) (ax_nil))))))) (lx_cons (ex_callE G h__law_told (by decide) (ax_cons (EX.arg (ex_int)) (ax_cons (EX.arg (ex_int)) (ax_cons (EX.arg (ex_tup (lx_cons (ex_int) (lx_cons (ex_int) (lx_nil))))) (ax_cons (EX.arg (ex_int)) (ax_cons (EX.arg (ex_int)) (ax_nil))))))) (lx_cons (ex_callE G h__law_told (by decide) (ax_cons (EX.arg (ex_int)) (ax_cons (EX.arg (ex_int)) (ax_cons (EX.arg (ex_tup (lx_cons (ex_int) (lx_cons (ex_int) (lx_nil))))) (ax_cons (EX.arg (ex_int)) (ax_cons (EX.arg (ex_int)) (ax_nil))))))) (lx_cons (ex_callE G h__law_told (by decide) (ax_cons (EX.arg (ex_int)) (ax_cons (EX.arg (ex_int)) (ax_cons (EX.arg (ex_tup (lx_cons (ex_int) (lx_cons (ex_int) (lx_nil))))) (ax_cons (EX.arg (ex_int)) (ax_cons (EX.arg (ex_int)) (ax_nil))))))) (lx_cons (ex_callE G h__law_told (by decide) (ax_cons (EX.arg (ex_int)) (ax_cons (EX.arg (ex_int)) (ax_cons (EX.arg (ex_tup (lx_cons (ex_int) (lx_cons (ex_int) (lx_nil))))) (ax_cons (EX.arg (ex_tup (lx_cons (ex_int) (lx_cons (ex_int) (lx_nil))))) (ax_cons (EX.arg (ex_int)) (ax_nil))))))) (lx_cons (ex_callE G h__law_told (by decide) (ax_cons (EX.arg (ex_int)) (ax_cons (EX.arg (ex_int)) (ax_cons (EX.arg (ex_tup (lx_cons (ex_int) (lx_cons (ex_int) (lx_nil))))) (ax_cons (EX.arg (ex_int)) (ax_cons (EX.arg (ex_int)) (ax_nil))))))) (lx_nil))))))))))))
    (ssx_one (sx_ret (ex_andV (ex_eq G (et_var (pv 5)) (EX.t (ex_add (EX.t (ex_add (EF.t (ef_rep (ef_lst (lx_cons (ex_str) (lx_nil))) (EX.t (ex_int)))) (EF.t (ef_rep (ef_lst (lx_cons (ex_str) (lx_nil))) (EX.t (ex_int)))))) (EF.t (ef_lst (lx_cons (ex_str) (lx_nil))))))) (ex_one (ex_eq G (EX.t (ex_giE Y.c_MAX_STEPPED)) (EX.t (ex_int)))))))))))

end BB
set_option Elab.async false
set_option linter.all false
set_option maxRecDepth 100000
set_option autoImplicit false
set_option maxHeartbeats 2000000
/-! k59 -/
namespace BB
open PySem PySem.Spec PyProof.Rows L2
local macro_rules | `(tactic| simp_arith [$as,*]) => `(tactic| try simp [$as,*, -e_wbind, -e_wk, -e_wb2, -e_wb1, -e_wtest, -e_wand, -e_wor, -e_wnot, -e_wandV, -e_worV, -e_wnotV, -e_wif, -e_wchain, -e_wop, -e_witems, -e_sseq, -e_slift, -e_sdrop, -e_sret, -e_sif, -e_stry, -e_sapp, -e_sext, -e_runB, -e_sasg, -e_sasgF, -e_sasgT, -e_sfor, -e_wlst, -e_warg, -e_wnil, -e_wcons, -e_wnilC, -e_wconsC, -e_wtup, -e_wlis, -e_wlc, -e_wcall, -e_wsl, -e_wTupRg, -e_wLstRg, -e_wsel, ↓k_wbind, ↓k_wk, ↓k_wb2, ↓k_wb1, ↓k_wtest, ↓k_wand, ↓k_wor, ↓k_wnot, ↓k_wandV, ↓k_worV, ↓k_wnotV, ↓k_wif, ↓k_wchain, ↓k_wop, ↓k_witems, ↓k_sseq, ↓k_slift, ↓k_sdrop, ↓k_sret, ↓k_sif, ↓k_stry, ↓k_sapp, ↓k_sext, ↓k_wlst, ↓k_warg, ↓k_wnil, ↓k_wcons, ↓k_wnilC, ↓k_wconsC, ↓k_wtup, ↓k_wlis, ↓k_wlc, ↓k_wcall, ↓k_wsl, ↓k_wTupRg, ↓k_wLstRg, ↓k_wsel, ↓k_wrep, ↓k_wcat, ↓k_wlc2, ↓k_spop, ↓k_spopAt, ↓k_sdone, ↓k_wdget, ↓k_wdgetX, ↓k_sdput, ↓k_wdin, ↓k_wlenD, ↓k_wdc, ↓k_sasgD, ↓k_wsortD, ↓k_sdnew, ↓k_windex, ↓k_sset2, ↓k_slock, ↓k_wlock, ↓k_wkeysL, ↓k_wdinL, ↓k_sasg, ↓k_sasgF, ↓k_sasgT, ↓k_sfor, ↓k_runB, sizeLine_eq])
local macro_rules | `(tactic| simp_arith) => `(tactic| try simp [-e_wbind, -e_wk, -e_wb2, -e_wb1, -e_wtest, -e_wand, -e_wor, -e_wnot, -e_wandV, -e_worV, -e_wnotV, -e_wif, -e_wchain, -e_wop, -e_witems, -e_sseq, -e_slift, -e_sdrop, -e_sret, -e_sif, -e_stry, -e_sapp, -e_sext, -e_runB, -e_sasg, -e_sasgF, -e_sasgT, -e_sfor, -e_wlst, -e_warg, -e_wnil, -e_wcons, -e_wnilC, -e_wconsC, -e_wtup, -e_wlis, -e_wlc, -e_wcall, -e_wsl, -e_wTupRg, -e_wLstRg, -e_wsel, ↓k_wbind, ↓k_wk, ↓k_wb2, ↓k_wb1, ↓k_wtest, ↓k_wand, ↓k_wor, ↓k_wnot, ↓k_wandV, ↓k_worV, ↓k_wnotV, ↓k_wif, ↓k_wchain, ↓k_wop, ↓k_witems, ↓k_sseq, ↓k_slift, ↓k_sdrop, ↓k_sret, ↓k_sif, ↓k_stry, ↓k_sapp, ↓k_sext, ↓k_wlst, ↓k_warg, ↓k_wnil, ↓k_wcons, ↓k_wnilC, ↓k_wconsC, ↓k_wtup, ↓k_wlis, ↓k_wlc, ↓k_wcall, ↓k_wsl, ↓k_wTupRg, ↓k_wLstRg, ↓k_wsel, ↓k_wrep, ↓k_wcat, ↓k_wlc2, ↓k_spop, ↓k_spopAt, ↓k_sdone, ↓k_wdget, ↓k_wdgetX, ↓k_sdput, ↓k_wdin, ↓k_wlenD, ↓k_wdc, ↓k_sasgD, ↓k_wsortD, ↓k_sdnew, ↓k_windex, ↓k_sset2, ↓k_slock, ↓k_wlock, ↓k_wkeysL, ↓k_wdinL, ↓k_sasg, ↓k_sasgF, ↓k_sasgT, ↓k_sfor, ↓k_runB, sizeLine_eq])
/-! what all laws share -/
def spec__law_stream : Spec := specStream
def spec__law_next : Spec := specNext
def spec__law_same : Spec := specSame
def checkMany (m : Int) : Except Er D := if 32 < m then .error .tl else if m < 1 then .error .na else .ok .none
theorem checkMany_ok {m : Int} {x : D} (h : checkMany m = .ok x) : 1 ≤ m ∧ m ≤ 32 ∧ x = .none := by
  unfold checkMany at h
  split at h
  · cases h
  · split at h
    · cases h
    · cases h; exact ⟨by omega, by omega, rfl⟩
theorem checkMany_is {m : Int} (h : 1 ≤ m ∧ m ≤ 32) : checkMany m = .ok .none := by
  unfold checkMany
  rw [if_neg (by omega), if_neg (by omega)]
def spec_check_many : Spec := fun cs b R => ∃ m : Int, cs = [.val (.int m)] ∧ R (checkMany m) b
def checkSet (m s : Int) : Except Er D := (checkMany m).bind fun _ => if s < 0 ∨ 2 ^ m.toNat ≤ s then .error .na else .ok .none
def spec_check_set : Spec := fun cs b R => ∃ m s : Int, cs = [.val (.int m), .val (.int s)] ∧ R (checkSet m s) b
theorem bne_dec {a : Int} : (!(a == 0)) = decide (a ≠ 0) := by by_cases z : a = 0 <;> simp [z]
def encI (l : List Int) : D := .tuple (l.map PyData.int)
theorem checkSet_ok {m s : Int} {x : D} (h : checkSet m s = .ok x) : (1 ≤ m ∧ m ≤ 32) ∧ 0 ≤ s ∧ s < 2 ^ m.toNat ∧ x = .none := by
  unfold checkSet at h
  cases e : checkMany m with
  | error e' => rw [e] at h; cases h
  | ok y =>
    rw [e] at h
    obtain ⟨a, b, _⟩ := checkMany_ok e
    have h' : (if s < 0 ∨ 2 ^ m.toNat ≤ s then Except.error Er.na else Except.ok PyData.none) = Except.ok x := h
    split at h'
    · cases h'
    · cases h'; exact ⟨⟨a, b⟩, by omega, by omega, rfl⟩
theorem checkSet_is {m s : Int} (hm : 1 ≤ m ∧ m ≤ 32) (hs : 0 ≤ s ∧ s < 2 ^ m.toNat) : checkSet m s = .ok .none := by
  unfold checkSet
  rw [checkMany_is hm]
  show (if s < 0 ∨ 2 ^ m.toNat ≤ s then Except.error Er.na else Except.ok PyData.none) = _
  rw [if_neg (by omega)]
theorem len_zero {α : Type} (l : List α) : ((l.length : Int) == 0) = l.isEmpty := by
  cases l with
  | nil => rfl
  | cons x l =>
    have : ¬ (((x :: l).length : Int) = 0) := by simp only [List.length_cons]; omega
    simpa using this
theorem next_at {m : Int} {b : Nat} {R : Except Er D → Nat → Prop} (hm : 0 < m) (hb : 0 < b) (h : ∀ v, 0 ≤ v → v < m → R (.ok (.int v)) (b - 1)) : spec__law_next [.st, .val (.int m)] b R := ⟨m, rfl, hm, hb, h⟩
theorem at_two {x y : D} {v : Int} {P : D → Prop} (h0 : 0 ≤ v) (h : v < 2) (hx : P x) (hy : P y) : ∃ d, atI [x, y] v = some d ∧ P d := by
  have : v = 0 ∨ v = 1 := by omega
  rcases this with rfl | rfl
  · exact ⟨x, atI_0, hx⟩
  · exact ⟨y, atI_1, hy⟩
theorem drawn_ints {P : Int → Prop} : ∀ {ds ys : List D}, Paired (fun _ y => ∃ t, y = PyData.int t ∧ P t) ds ys → ∃ ts : List Int, ys = ts.map PyData.int ∧ ts.length = ds.length ∧ ∀ t ∈ ts, P t
  | _, _, .nil => ⟨[], rfl, rfl, fun t h => by cases h⟩
  | _, _, .cons ⟨t, e, p⟩ r => by
    obtain ⟨ts, e2, l, q⟩ := drawn_ints r
    exact ⟨t :: ts, by rw [e, e2]; rfl, by simp [l], fun x hx => by
      rcases List.mem_cons.1 hx with rfl | hx
      · exact p
      · exact q x hx⟩
def inW (m x : Int) : Prop := 0 ≤ x ∧ x < 2 ^ m.toNat
theorem at_int2 {m x y v : Int} (h0 : 0 ≤ v) (h : v < 2) (hx : inW m x) (hy : inW m y) : ∃ c, atI [PyData.int x, PyData.int y] v = some (.int c) ∧ inW m c := by
  have : v = 0 ∨ v = 1 := by omega
  rcases this with rfl | rfl
  · exact ⟨x, atI_0, hx⟩
  · exact ⟨y, atI_1, hy⟩
theorem cut_any (ns : List Int) (lo hi : Option Int) : ∃ ms : List Int, cutD (ns.map PyData.int) lo hi = ms.map PyData.int ∧ ms.length ≤ ns.length := by
  unfold cutD
  rw [← List.map_drop, ← List.map_take]
  exact ⟨_, rfl, by rw [List.length_take, List.length_drop]; omega⟩
theorem range_drop {n t i : Nat} {l : List Nat} (h : i :: l = (List.range n).drop t) : i = t ∧ l = (List.range n).drop (t + 1) ∧ t < n := by
  have ht : t < n := by
    have := congrArg List.length h
    rw [List.length_cons, List.length_drop, List.length_range] at this
    omega
  rw [List.drop_eq_getElem_cons (by simpa using ht)] at h
  injection h with h1 h2
  exact ⟨by simpa using h1, h2, ht⟩
theorem at_any {l : List Int} {v : Int} (h0 : 0 ≤ v) (h : v < l.length) : ∃ k, atI (l.map PyData.int) v = some (.int k) ∧ k ∈ l := by
  obtain ⟨n, rfl⟩ := Int.eq_ofNat_of_zero_le h0
  have hn : n < l.length := by omega
  exact ⟨l[n], atI_nat (by simp [hn]), List.getElem_mem hn⟩
theorem filter_le {α : Type} (p q : α → Bool) : ∀ (l : List α), (∀ x ∈ l, p x = true → q x = true) → (l.filter p).length ≤ (l.filter q).length
  | [], _ => Nat.le_refl _
  | x :: l, h => by
    have ih := filter_le p q l fun y hy => h y (List.mem_cons_of_mem _ hy)
    rw [List.filter_cons, List.filter_cons]
    by_cases hp : p x = true
    · rw [if_pos hp, if_pos (h x List.mem_cons_self hp)]; simp; exact ih
    · rw [if_neg hp]
      split
      · simp; omega
      · exact ih
theorem filter_lt {α : Type} (p q : α → Bool) : ∀ (l : List α), (∀ x ∈ l, p x = true → q x = true) → (∃ x ∈ l, q x = true ∧ ¬ p x = true) → (l.filter p).length < (l.filter q).length
  | [], _, ⟨x, hx, _⟩ => by cases hx
  | x :: l, h, ⟨y, hy, hq, hp⟩ => by
    have hl := fun z hz => h z (List.mem_cons_of_mem x hz)
    rw [List.filter_cons, List.filter_cons]
    rcases List.mem_cons.1 hy with rfl | hy
    · rw [if_neg hp, if_pos hq]
      have := filter_le p q l hl
      simp; omega
    · have ih := filter_lt p q l hl ⟨y, hy, hq, hp⟩
      by_cases hpx : p x = true
      · rw [if_pos hpx, if_pos (h x List.mem_cons_self hpx)]; simp; exact ih
      · rw [if_neg hpx]
        split
        · simp; omega
        · exact ih
theorem noB_ints : ∀ ns : List Int, noBs (ns.map PyData.int) = true
  | [] => rfl
  | n :: ns => by
    show (noB (.int n) && noBs (ns.map PyData.int)) = true
    rw [noB_ints ns]; rfl
theorem int_inj : ∀ {ns ms : List Int}, ns.map PyData.int = ms.map PyData.int → ns = ms
  | [], [], _ => rfl
  | [], _ :: _, h => by cases h
  | _ :: _, [], h => by cases h
  | n :: ns, m :: ms, h => by
    simp only [List.map_cons, List.cons.injEq, PyData.int.injEq] at h
    rw [h.1, int_inj h.2]
theorem eqv_ints {ns ms : List Int} : PyData.eqv (.tuple (ns.map PyData.int)) (.tuple (ms.map PyData.int)) = decide (ns = ms) := by
  by_cases q : ns = ms
  · subst q
    rw [decide_eq_true rfl]
    exact eqv_rfl (canLay_ints ns)
  · rw [decide_eq_false q]
    exact eqv_ne (noB_ints ns) (noB_ints ms) fun z => q (int_inj (by injection z))
theorem rise_ext : ∀ {xs ys : List Int}, xs.Pairwise (· < ·) → ys.Pairwise (· < ·) → (∀ k, k ∈ xs ↔ k ∈ ys) → xs = ys
  | [], [], _, _, _ => rfl
  | [], y :: ys, _, _, h => by have := (h y).2 List.mem_cons_self; cases this
  | x :: xs, [], _, _, h => by have := (h x).1 List.mem_cons_self; cases this
  | x :: xs, y :: ys, hx, hy, h => by
    obtain ⟨hx1, hx2⟩ := List.pairwise_cons.1 hx
    obtain ⟨hy1, hy2⟩ := List.pairwise_cons.1 hy
    have e : x = y := by
      rcases List.mem_cons.1 ((h x).1 List.mem_cons_self) with z | z
      · exact z
      · rcases List.mem_cons.1 ((h y).2 List.mem_cons_self) with w | w
        · exact w.symm
        · have := hx1 y w; have := hy1 x z; omega
    subst e
    rw [rise_ext hx2 hy2 fun k => ?_]
    constructor
    · intro hk
      rcases List.mem_cons.1 ((h k).1 (List.mem_cons_of_mem _ hk)) with z | z
      · have := hx1 k hk; omega
      · exact z
    · intro hk
      rcases List.mem_cons.1 ((h k).2 (List.mem_cons_of_mem _ hk)) with z | z
      · have := hy1 k hk; omega
      · exact z
theorem rise_len : ∀ {xs : List Int} {a n : Int}, xs.Pairwise (· < ·) → (∀ x ∈ xs, a ≤ x ∧ x < n) → (xs.length : Int) ≤ n - a ∨ xs = []
  | [], _, _, _, _ => .inr rfl
  | x :: xs, a, n, h, hb => by
    obtain ⟨h1, h2⟩ := List.pairwise_cons.1 h
    have hx := hb x List.mem_cons_self
    left
    rcases rise_len (a := x + 1) (n := n) h2 (fun y hy => ⟨h1 y hy, (hb y (List.mem_cons_of_mem _ hy)).2⟩) with z | z
    · rw [List.length_cons]; omega
    · subst z; simp; omega
theorem strict_of {xs : List Int} (h : xs.Pairwise (· ≤ ·)) (nd : xs.Nodup) : xs.Pairwise (· < ·) := by
  refine (List.Pairwise.and h nd).imp fun {a b} ⟨h1, h2⟩ => ?_
  omega
theorem len_of {xs : List Int} {n : Int} (n0 : 0 ≤ n) (nd : xs.Nodup) (hb : ∀ x ∈ xs, 0 ≤ x ∧ x < n) : (xs.length : Int) ≤ n := by
  have p := List.mergeSort_perm xs (fun a b => decide (a ≤ b))
  have srt : (xs.mergeSort fun a b => decide (a ≤ b)).Pairwise (· ≤ ·) := by
    have := List.pairwise_mergeSort (le := fun a b : Int => decide (a ≤ b)) (fun a b c h1 h2 => by simp at *; omega) (fun a b => by simp; omega) xs
    exact this.imp fun h => by simpa using h
  have := rise_len (a := 0) (strict_of srt (p.nodup_iff.2 nd)) fun x hx => hb x (p.mem_iff.1 hx)
  rw [← p.length_eq]
  rcases this with z | z
  · omega
  · rw [z]; simpa using n0
theorem beq_dec {a b : Int} : (a == b) = decide (a = b) := by by_cases h : a = b <;> simp [h]
theorem cut_to {ds : List D} {k : Nat} : cutD ds none (some (k : Int)) = ds.take k := by
  unfold cutD
  rw [HT.sIx_nat]
  simp [HT.sIx, ← List.take_take]
theorem cut_from {ds : List D} {k : Nat} : cutD ds (some (k : Int)) none = ds.drop k := by
  unfold cutD
  rw [HT.sIx_nat]
  simp [HT.sIx]
  by_cases h : k ≤ ds.length
  · rw [Nat.min_eq_left h, List.take_of_length_le (by simp)]
  · rw [Nat.min_eq_right (by omega), List.drop_eq_nil_of_le (by omega), List.drop_eq_nil_of_le (by omega)]; simp
theorem eqv_encI {ns ms : List Int} : PyData.eqv (encI ns) (encI ms) = decide (ns = ms) := eqv_ints
def toldD : Except Er D → D
  | .ok d => .tuple [.str "told", d]
  | .error e => .str (erTx e)
theorem sm_encI {l : List Int} {n : Nat} {M : Int} (hM : M ≤ 999999999999) (h : ∀ x ∈ l, 0 ≤ x ∧ x < M) (hn : l.length ≤ n) : Sm 1 (n * 41) (encI l) := by
  refine sm_tuple (wt := 40) (fun d hd => ?_) (by simpa using hn)
  obtain ⟨x, hx, rfl⟩ := List.mem_map.1 hd
  have := h x hx
  exact sm_int (by omega) (by omega)
theorem sm_told {dp wt : Nat} {d : D} (h : Sm dp wt d) (hw : 10 ≤ wt) : Sm (dp + 1) (2 * (wt + 1)) (.tuple [.str "told", d]) := by
  refine sm_tuple (fun x hx => ?_) (by simp)
  simp at hx
  rcases hx with rfl | rfl
  · exact (sm_str (n := 10) (by decide +kernel) (by decide +kernel)).mono (by omega) hw
  · exact h
theorem sma_nil {dp wt : Nat} : ∀ x ∈ ([] : List D), Sm dp wt x := fun x h => nomatch h
theorem sma_cons {dp wt : Nat} {d : D} {ds : List D} (h : Sm dp wt d) (h2 : ∀ x ∈ ds, Sm dp wt x) : ∀ x ∈ d :: ds, Sm dp wt x := fun x hx => by
  rcases List.mem_cons.1 hx with rfl | hx
  · exact h
  · exact h2 x hx
theorem sm_toldB {b : Bool} : Sm 1 22 (.tuple [.str "told", .bool b]) := sm_told (dp := 0) (wt := 10) (sm_bool.mono (by decide) (by decide)) (by decide)
theorem no_set {m s : Int} (hm : 1 ≤ m ∧ m ≤ 32) (h : s < 0 ∨ 2 ^ m.toNat ≤ s) : checkSet m s = .error .na := by
  unfold checkSet
  rw [checkMany_is hm]
  show (if s < 0 ∨ 2 ^ m.toNat ≤ s then _ else _) = _
  rw [if_pos h]
theorem mask : ∀ (n : Nat) (p : Nat → Bool), ∃ c : Int, 0 ≤ c ∧ c < 2 ^ n ∧ ∀ k, k < n → ib c k = p k
  | 0, _ => ⟨0, by decide, by decide, fun k hk => absurd hk (Nat.not_lt_zero _)⟩
  | n + 1, p => by
    obtain ⟨c, c0, c1, hc⟩ := mask n fun k => p (k + 1)
    have two : (2 : Int) ^ (n + 1) = 2 * 2 ^ n := by rw [Int.pow_succ]; omega
    refine ⟨2 * c + (if p 0 = true then 1 else 0), by split <;> omega, by rw [two]; split <;> omega, fun k hk => ?_⟩
    cases k with
    | zero =>
      rw [ib_zero]
      cases p 0 <;> simp <;> omega
    | succ k =>
      rw [ib_succ, show (2 * c + (if p 0 = true then 1 else 0)) / 2 = c by split <;> omega]
      exact hc k (by omega)

/-! sets of worlds by their bits -/
theorem ib_nat {x : Nat} {i : Nat} : ib (x : Int) i = x.testBit i := by
  unfold ib
  rw [Nat.testBit_eq_decide_div_mod_eq]
  have : ((x : Int) / 2 ^ i % 2) = ((x / 2 ^ i % 2 : Nat) : Int) := by push_cast; rfl
  rw [this]
  exact decide_eq_decide.2 (by omega)
theorem pow_cast (n : Nat) : ((2 : Int) ^ n) = ((2 ^ n : Nat) : Int) := by push_cast; rfl
theorem ib_pow {n i : Nat} : ib ((2 : Int) ^ n) i = decide (n = i) := by
  rw [pow_cast, ib_nat, Nat.testBit_two_pow]
/-- x and a greater bit together -/
theorem add_or {x : Int} {n : Nat} (h : 0 ≤ x ∧ x < 2 ^ n) : x + 2 ^ n = Builtin.bitOr x (2 ^ n) := by
  obtain ⟨m, rfl⟩ := Int.eq_ofNat_of_zero_le h.1
  refine ib_ext fun i => ?_
  rw [ib_or, ib_pow, pow_cast, ← Int.natCast_add, ib_nat, ib_nat]
  have hm : m < 2 ^ n := by have := h.2; rw [pow_cast] at this; exact_mod_cast this
  have e := Nat.two_pow_add_eq_or_of_lt hm 1
  rw [Nat.mul_one] at e
  rw [Nat.add_comm, e, Nat.testBit_or, Nat.testBit_two_pow, Bool.or_comm]
/-- the set of the worlds below n with a property -/
def setOf (n : Nat) (p : Nat → Bool) : Int := (((List.range n).filter p).map fun (w : Nat) => (2 : Int) ^ w).sum
theorem setOf_succ {n : Nat} {p : Nat → Bool} : setOf (n + 1) p = setOf n p + if p n = true then 2 ^ n else 0 := by
  unfold setOf
  rw [List.range_succ, List.filter_append, List.map_append, List.sum_append]
  congr 1
  by_cases h : p n = true
  · simp [h]
  · simp [h]
theorem setOf_range : ∀ {n : Nat} {p : Nat → Bool}, 0 ≤ setOf n p ∧ setOf n p < 2 ^ n
  | 0, p => by simp [setOf]
  | n + 1, p => by
    have ih := setOf_range (n := n) (p := p)
    rw [setOf_succ, Int.pow_succ]
    split <;> omega
theorem ib_setOf {i : Nat} : ∀ {n : Nat} {p : Nat → Bool}, ib (setOf n p) i = (decide (i < n) && p i)
  | 0, p => by simp [setOf, ib_0]
  | n + 1, p => by
    rw [setOf_succ]
    have ih := ib_setOf (i := i) (n := n) (p := p)
    by_cases h : p n = true
    · rw [if_pos h, add_or setOf_range, ib_or, ih, ib_pow]
      by_cases e : n = i
      · subst e; simp [h]
      · by_cases l : i < n
        · simp [l, e, show i < n + 1 by omega]
        · simp [l, e, show ¬ i < n + 1 by omega]
    · rw [if_neg h, Int.add_zero, ih]
      by_cases e : n = i
      · subst e; simp [h]
      · by_cases l : i < n
        · simp [l, show i < n + 1 by omega]
        · simp [l, show ¬ i < n + 1 by omega]
theorem setOf_congr {n : Nat} {p q : Nat → Bool} (h : ∀ i, i < n → p i = q i) : setOf n p = setOf n q := ib_ext fun i => by
  rw [ib_setOf, ib_setOf]
  by_cases l : i < n
  · rw [h i l]
  · simp [l]
theorem setOf_ib {n : Nat} {x : Int} (h : 0 ≤ x ∧ x < 2 ^ n) : setOf n (ib x) = x := ib_ext fun i => by
  rw [ib_setOf]
  by_cases l : i < n
  · simp [l]
  · rw [ib_lt h.1 h.2 (by omega)]; simp
theorem setOf_eq {n : Nat} {p : Nat → Bool} {x : Int} (h : 0 ≤ x ∧ x < 2 ^ n) (e : ∀ i, i < n → p i = ib x i) : setOf n p = x := by
  rw [setOf_congr e, setOf_ib h]
/-- a bit looked at -/
theorem bit_and (x : Int) (k : Nat) : Builtin.bitAnd (x / 2 ^ k) 1 = if ib x k = true then 1 else 0 := by
  refine ib_ext fun j => ?_
  have e1 : ib (1 : Int) j = decide (j = 0) := by
    have := ib_pow (n := 0) (i := j)
    rw [Int.pow_zero] at this
    rw [this]; exact decide_eq_decide.2 (by omega)
  rw [ib_and, e1]
  by_cases z : j = 0
  · subst z
    rw [ib_zero]
    by_cases h : ib x k = true
    · rw [if_pos h]
      unfold ib at h
      rw [h]; decide
    · rw [if_neg h]
      unfold ib at h
      rw [Bool.not_eq_true] at h
      rw [h]; decide
  · rw [decide_eq_false z, Bool.and_false]
    split
    · rw [e1, decide_eq_false z]
    · rw [ib_0]
theorem bit_ne (x : Int) (k : Nat) : (Builtin.bitAnd (x / 2 ^ k) 1 != 0) = ib x k := by
  rw [bit_and]
  by_cases h : ib x k = true
  · rw [if_pos h, h]; rfl
  · rw [if_neg h]
    simpa using h
/-- a comprehension whose test draws at most m a turn: what comes is a part of the list, in order -/
theorem wComp_ds {α : Type} (enc : α → D) {G : TgW} {c : Env → Wp Bool} {e : Env → Wp D} {δ : Env} (m : Nat) (F : α → D) : ∀ {xs : List α} {b : Nat} {R : List D → Nat → Prop},
    (∀ x ∈ xs, ∀ (b : Nat) (Rf : Nat → Prop) (Rt : D → Nat → Prop), m ≤ b → (∀ b', b ≤ b' + m → Rf b') → (∀ b', b ≤ b' + m → Rt (F x) b') → G (enc x) δ fun δ1 => c δ1 b (KCt e δ1 Rf Rt)) →
    xs.length * m ≤ b → (∀ (l : List α) (b' : Nat), l.Sublist xs → b ≤ b' + xs.length * m → R (l.map F) b') → wComp G c e (xs.map enc) δ b R
  | [], b, R, _, _, hr => hr [] b (.refl _) (by simp)
  | x :: xs, b, R, h, hb, hr => by
    rw [List.length_cons, Nat.succ_mul] at hb
    have nxt := fun y hy => h y (List.mem_cons_of_mem x hy)
    rw [List.map_cons, k_comp_cons]
    refine h x List.mem_cons_self b _ _ (by omega) (fun b1 h1 => ?_) fun b1 h1 => ?_
    · refine wComp_ds enc m F nxt (by omega) fun l b2 sl h2 => hr l b2 (sl.cons x) (by rw [List.length_cons, Nat.succ_mul]; omega)
    · refine wComp_ds enc m F nxt (by omega) fun l b2 sl h2 => hr (x :: l) b2 (sl.cons₂ x) (by rw [List.length_cons, Nat.succ_mul]; omega)
theorem range_sub {n : Nat} {l : List Nat} (h : l.Sublist (List.range n)) : l = (List.range n).filter fun w => decide (w ∈ l) := by
  have key : ∀ {l r : List Nat}, r.Nodup → l.Sublist r → l = r.filter fun w => decide (w ∈ l) := fun {l r} nd s => by
    induction s with
    | slnil => rfl
    | @cons l r x s ih =>
      have nx : x ∉ l := fun z => (List.nodup_cons.1 nd).1 (s.subset z)
      rw [List.filter_cons, if_neg (by simpa using nx)]
      exact ih (List.nodup_cons.1 nd).2
    | @cons_cons l r x s ih =>
      rw [List.filter_cons, if_pos (by simp)]
      congr 1
      have nd2 := List.nodup_cons.1 nd
      have e := ih nd2.2
      refine e.trans (List.filter_congr fun y hy => ?_)
      have : y ≠ x := fun z => nd2.1 (z ▸ hy)
      simp [this]
  exact key List.nodup_range h
theorem sum_sub {n : Nat} {l : List Nat} (h : l.Sublist (List.range n)) : (l.map fun (w : Nat) => (2 : Int) ^ w).sum = setOf n fun w => decide (w ∈ l) := by
  have e := range_sub h
  unfold setOf
  rw [← e]
theorem rangeD_nat {n : Nat} : rangeD 0 (n : Int) = (List.range n).map fun (i : Nat) => PyData.int (0 + (i : Int)) := by
  unfold rangeD
  rw [show ((n : Int) - 0).toNat = n by omega]
theorem rangeD_pow {n : Nat} : rangeD 0 ((2 : Int) ^ n) = (List.range (2 ^ n)).map fun (i : Nat) => PyData.int (0 + (i : Int)) := by
  rw [pow_cast, rangeD_nat]
/-- numbers that ascend -/
def Asc (l : List Int) : Prop := l.Pairwise (· < ·)
instance (l : List Int) : Decidable (Asc l) := by unfold Asc; infer_instance
theorem sorted_is {ns ys : List Int} (h1 : ys.Pairwise (· < ·)) (h2 : ∀ k, k ∈ ys ↔ k ∈ ns) : (ns = ys) ↔ Asc ns := by
  constructor
  · intro e; rw [e]; exact h1
  · intro a; exact rise_ext a h1 fun k => (h2 k).symm
theorem eqv_intsL {ns ms : List Int} : PyData.eqv (.list (ns.map PyData.int)) (.list (ms.map PyData.int)) = decide (ns = ms) := by
  have := eqv_ints (ns := ns) (ms := ms)
  exact this
theorem bneI {a b : Int} : (!(a == b)) = decide (a ≠ b) := by by_cases z : a = b <;> simp [z]
end BB
set_option Elab.async false
set_option linter.all false
set_option maxRecDepth 100000
set_option autoImplicit false
set_option maxHeartbeats 2000000
/-! k59 -/
namespace BB
open PySem PySem.Spec PyProof.Rows L2
local macro_rules | `(tactic| simp_arith [$as,*]) => `(tactic| try simp [$as,*, -e_wbind, -e_wk, -e_wb2, -e_wb1, -e_wtest, -e_wand, -e_wor, -e_wnot, -e_wandV, -e_worV, -e_wnotV, -e_wif, -e_wchain, -e_wop, -e_witems, -e_sseq, -e_slift, -e_sdrop, -e_sret, -e_sif, -e_stry, -e_sapp, -e_sext, -e_runB, -e_sasg, -e_sasgF, -e_sasgT, -e_sfor, -e_wlst, -e_warg, -e_wnil, -e_wcons, -e_wnilC, -e_wconsC, -e_wtup, -e_wlis, -e_wlc, -e_wcall, -e_wsl, -e_wTupRg, -e_wLstRg, -e_wsel, ↓k_wbind, ↓k_wk, ↓k_wb2, ↓k_wb1, ↓k_wtest, ↓k_wand, ↓k_wor, ↓k_wnot, ↓k_wandV, ↓k_worV, ↓k_wnotV, ↓k_wif, ↓k_wchain, ↓k_wop, ↓k_witems, ↓k_sseq, ↓k_slift, ↓k_sdrop, ↓k_sret, ↓k_sif, ↓k_stry, ↓k_sapp, ↓k_sext, ↓k_wlst, ↓k_warg, ↓k_wnil, ↓k_wcons, ↓k_wnilC, ↓k_wconsC, ↓k_wtup, ↓k_wlis, ↓k_wlc, ↓k_wcall, ↓k_wsl, ↓k_wTupRg, ↓k_wLstRg, ↓k_wsel, ↓k_wrep, ↓k_wcat, ↓k_wlc2, ↓k_spop, ↓k_spopAt, ↓k_sdone, ↓k_wdget, ↓k_wdgetX, ↓k_sdput, ↓k_wdin, ↓k_wlenD, ↓k_wdc, ↓k_sasgD, ↓k_wsortD, ↓k_sdnew, ↓k_windex, ↓k_sset2, ↓k_slock, ↓k_wlock, ↓k_wkeysL, ↓k_wdinL, ↓k_sasg, ↓k_sasgF, ↓k_sasgT, ↓k_sfor, ↓k_runB, sizeLine_eq])
local macro_rules | `(tactic| simp_arith) => `(tactic| try simp [-e_wbind, -e_wk, -e_wb2, -e_wb1, -e_wtest, -e_wand, -e_wor, -e_wnot, -e_wandV, -e_worV, -e_wnotV, -e_wif, -e_wchain, -e_wop, -e_witems, -e_sseq, -e_slift, -e_sdrop, -e_sret, -e_sif, -e_stry, -e_sapp, -e_sext, -e_runB, -e_sasg, -e_sasgF, -e_sasgT, -e_sfor, -e_wlst, -e_warg, -e_wnil, -e_wcons, -e_wnilC, -e_wconsC, -e_wtup, -e_wlis, -e_wlc, -e_wcall, -e_wsl, -e_wTupRg, -e_wLstRg, -e_wsel, ↓k_wbind, ↓k_wk, ↓k_wb2, ↓k_wb1, ↓k_wtest, ↓k_wand, ↓k_wor, ↓k_wnot, ↓k_wandV, ↓k_worV, ↓k_wnotV, ↓k_wif, ↓k_wchain, ↓k_wop, ↓k_witems, ↓k_sseq, ↓k_slift, ↓k_sdrop, ↓k_sret, ↓k_sif, ↓k_stry, ↓k_sapp, ↓k_sext, ↓k_wlst, ↓k_warg, ↓k_wnil, ↓k_wcons, ↓k_wnilC, ↓k_wconsC, ↓k_wtup, ↓k_wlis, ↓k_wlc, ↓k_wcall, ↓k_wsl, ↓k_wTupRg, ↓k_wLstRg, ↓k_wsel, ↓k_wrep, ↓k_wcat, ↓k_wlc2, ↓k_spop, ↓k_spopAt, ↓k_sdone, ↓k_wdget, ↓k_wdgetX, ↓k_sdput, ↓k_wdin, ↓k_wlenD, ↓k_wdc, ↓k_sasgD, ↓k_wsortD, ↓k_sdnew, ↓k_windex, ↓k_sset2, ↓k_slock, ↓k_wlock, ↓k_wkeysL, ↓k_wdinL, ↓k_sasg, ↓k_sasgF, ↓k_sasgT, ↓k_sfor, ↓k_runB, sizeLine_eq])
/-! frames of blocks -/
def encF (fr : List (List Int)) : D := .tuple (fr.map encI)
structure Blk (m : Nat) (bs : List Int) : Prop where
  as : Asc bs
  rg : ∀ x ∈ bs, 0 < x ∧ x < 2 ^ m
  dj : ∀ x ∈ bs, ∀ y ∈ bs, ∀ i, ib x i = true → ib y i = true → x = y
  un : ∀ i, i < m → ∃ x ∈ bs, ib x i = true
/-- together with what is before -/
def foldB : Int → List Int → Option Int
  | w, [] => some w
  | w, x :: l => if Builtin.bitAnd w x = 0 then foldB (Builtin.bitOr w x) l else none
def checkBlocks (m : Int) (bs : List Int) : Except Er D := if Asc bs ∧ ∀ x ∈ bs, 0 < x ∧ x < 2 ^ m.toNat then match foldB 0 bs with
  | some w => if w = 2 ^ m.toNat - 1 then .ok .none else .error .na
  | none => .error .na
  else .error .na
def checkAllB (m : Int) : List (List Int) → Except Er D
  | [] => .ok .none
  | bs :: l => (checkBlocks m bs).bind fun _ => checkAllB m l
def checkFrame (m : Int) (fr : List (List Int)) : Except Er D := (checkMany m).bind fun _ => if 6 < fr.length then .error .tl else if fr.length = 0 then .error .na else checkAllB m fr
def checkGroup (n : Nat) (g : List Int) : Except Er D := if g ≠ [] ∧ Asc g ∧ ∀ k ∈ g, 0 ≤ k ∧ k < n then .ok .none else .error .na
theorem ib_full {m i : Nat} : ib ((2 : Int) ^ m - 1) i = decide (i < m) := by
  have e : (2 : Int) ^ m - 1 = setOf m fun _ => true := by
    induction m with
    | zero => rfl
    | succ n ih =>
      rw [setOf_succ, ← ih, Int.pow_succ]; simp; omega
  rw [e, ib_setOf, Bool.and_true]
theorem foldB_some : ∀ {l : List Int} {w u : Int}, foldB w l = some u → (∀ i, ib u i = true ↔ ib w i = true ∨ ∃ x ∈ l, ib x i = true) ∧ (∀ x ∈ l, ∀ i, ib w i = true → ib x i = true → False) ∧ l.Pairwise (fun x y => ∀ i, ib x i = true → ib y i = true → False)
  | [], w, u, h => by cases h; exact ⟨fun i => by simp, (fun x hx => nomatch hx), .nil⟩
  | x :: l, w, u, h => by
    unfold foldB at h
    split at h
    · rename_i z
      obtain ⟨h1, h2, h3⟩ := foldB_some h
      have dz : ∀ i, ib w i = true → ib x i = true → False := fun i a b => by
        have := zero_iff.1 z i
        rw [ib_and, a, b] at this; cases this
      refine ⟨fun i => ?_, fun y hy i a b => ?_, List.pairwise_cons.2 ⟨fun y hy i a b => h2 y hy i (by rw [ib_or, a, Bool.or_true]) b, h3⟩⟩
      · rw [h1, ib_or, Bool.or_eq_true]
        simp only [List.mem_cons, exists_eq_or_imp, or_assoc]
      · rcases List.mem_cons.1 hy with rfl | hy
        · exact dz i a b
        · exact h2 y hy i (by rw [ib_or, a]; rfl) b
    · cases h
theorem foldB_is : ∀ {l : List Int} {w : Int}, (∀ x ∈ l, ∀ i, ib w i = true → ib x i = true → False) → l.Pairwise (fun x y => ∀ i, ib x i = true → ib y i = true → False) → ∃ u, foldB w l = some u
  | [], w, _, _ => ⟨w, rfl⟩
  | x :: l, w, h1, h2 => by
    obtain ⟨p1, p2⟩ := List.pairwise_cons.1 h2
    unfold foldB
    have z : Builtin.bitAnd w x = 0 := zero_iff.2 fun i => by
      rw [ib_and]
      cases a : ib w i with
      | false => rfl
      | true =>
        cases b : ib x i with
        | false => rfl
        | true => exact (h1 x List.mem_cons_self i a b).elim
    rw [if_pos z]
    refine foldB_is (fun y hy i a b => ?_) p2
    rw [ib_or, Bool.or_eq_true] at a
    rcases a with a | a
    · exact h1 y (List.mem_cons_of_mem _ hy) i a b
    · exact p1 y hy i a b
theorem Blk.pw {m : Nat} {bs : List Int} (h : Blk m bs) : bs.Pairwise (fun x y => ∀ i, ib x i = true → ib y i = true → False) := by
  refine List.Pairwise.imp_of_mem (fun {x y} hx hy lt i a b => ?_) h.as
  have := h.dj x hx y hy i a b
  omega
theorem Blk.is {m : Nat} {bs : List Int} (h : Blk m bs) : checkBlocks (m : Int) bs = .ok .none := by
  unfold checkBlocks
  rw [Int.toNat_natCast, if_pos ⟨h.as, h.rg⟩]
  obtain ⟨u, hu⟩ := foldB_is (w := 0) (fun x hx i a _ => by rw [ib_0] at a; cases a) h.pw
  have hs := (foldB_some hu).1
  have e : u = 2 ^ m - 1 := ib_ext fun i => by
    rw [ib_full, Bool.eq_iff_iff, hs, decide_eq_true_eq, ib_0]
    constructor
    · rintro (z | ⟨x, hx, z⟩)
      · cases z
      · refine Classical.byContradiction fun q => ?_
        rw [ib_lt (n := m) (by have := h.rg x hx; omega) (h.rg x hx).2 (by omega)] at z
        cases z
    · intro hi
      exact .inr (h.un i hi)
  rw [hu]
  show (if u = 2 ^ m - 1 then _ else _) = _
  rw [if_pos e]
theorem checkBlocks_ok {m : Nat} {bs : List Int} {y : D} (h : checkBlocks (m : Int) bs = .ok y) : Blk m bs ∧ y = .none := by
  unfold checkBlocks at h
  rw [Int.toNat_natCast] at h
  split at h
  · rename_i c
    split at h
    · rename_i u hu
      split at h
      · rename_i e
        cases h
        obtain ⟨h1, h2, h3⟩ := foldB_some hu
        refine ⟨⟨c.1, c.2, fun x hx y hy i a b => ?_, fun i hi => ?_⟩, rfl⟩
        · refine Classical.byContradiction fun ne => ?_
          obtain ⟨p, hp⟩ := List.mem_iff_getElem?.1 hx
          obtain ⟨q, hq⟩ := List.mem_iff_getElem?.1 hy
          obtain ⟨pl, pe⟩ := List.getElem?_eq_some_iff.1 hp
          obtain ⟨ql, qe⟩ := List.getElem?_eq_some_iff.1 hq
          rw [List.pairwise_iff_getElem] at h3
          rcases Nat.lt_trichotomy p q with z | z | z
          · exact h3 p q pl ql z i (by rw [pe]; exact a) (by rw [qe]; exact b)
          · subst z; exact ne (pe.symm.trans qe)
          · exact h3 q p ql pl z i (by rw [qe]; exact b) (by rw [pe]; exact a)
        · have := (h1 i).1 (by rw [e, ib_full]; exact decide_eq_true hi)
          rw [ib_0] at this
          exact this.resolve_left (by decide)
      · cases h
    · cases h
  · cases h
theorem checkAllB_is {m : Nat} : ∀ {fr : List (List Int)}, (∀ bs ∈ fr, Blk m bs) → checkAllB (m : Int) fr = .ok .none
  | [], _ => rfl
  | bs :: l, h => by
    show ((checkBlocks (m : Int) bs).bind fun _ => checkAllB m l) = _
    rw [(h bs List.mem_cons_self).is]
    exact checkAllB_is fun x hx => h x (List.mem_cons_of_mem _ hx)
theorem checkAllB_ok {m : Nat} : ∀ {fr : List (List Int)} {y : D}, checkAllB (m : Int) fr = .ok y → (∀ bs ∈ fr, Blk m bs) ∧ y = .none
  | [], y, h => by cases h; exact ⟨(fun x hx => nomatch hx), rfl⟩
  | bs :: l, y, h => by
    unfold checkAllB at h
    cases e : checkBlocks (m : Int) bs with
    | error z => rw [e] at h; cases h
    | ok z =>
      rw [e] at h
      have ih := checkAllB_ok (show checkAllB (m : Int) l = .ok y from h)
      refine ⟨fun x hx => ?_, ih.2⟩
      rcases List.mem_cons.1 hx with rfl | hx
      · exact (checkBlocks_ok e).1
      · exact ih.1 x hx
structure Frm (m : Nat) (fr : List (List Int)) : Prop where
  m1 : 1 ≤ m
  m2 : m ≤ 32
  l1 : 1 ≤ fr.length
  l6 : fr.length ≤ 6
  b : ∀ bs ∈ fr, Blk m bs
theorem Frm.is {m : Nat} {fr : List (List Int)} (h : Frm m fr) : checkFrame (m : Int) fr = .ok .none := by
  unfold checkFrame
  rw [checkMany_is (by have := h.m1; have := h.m2; omega)]
  show (if 6 < fr.length then _ else _) = _
  rw [if_neg (by have := h.l6; omega), if_neg (by have := h.l1; omega)]
  exact checkAllB_is h.b
theorem checkFrame_ok {m : Int} {fr : List (List Int)} {y : D} (h : checkFrame m fr = .ok y) : 0 ≤ m ∧ Frm m.toNat fr ∧ y = .none := by
  unfold checkFrame at h
  cases e : checkMany m with
  | error z => rw [e] at h; cases h
  | ok z =>
    rw [e] at h
    obtain ⟨a, c, _⟩ := checkMany_ok e
    obtain ⟨n, rfl⟩ := Int.eq_ofNat_of_zero_le (show 0 ≤ m by omega)
    have h : (if 6 < fr.length then Except.error Er.tl else if fr.length = 0 then Except.error Er.na else checkAllB (n : Int) fr) = Except.ok y := h
    split at h
    · cases h
    · split at h
      · cases h
      · have := checkAllB_ok h
        exact ⟨by omega, ⟨by omega, by omega, by omega, by omega, by rw [Int.toNat_natCast]; exact this.1⟩, this.2⟩
/-- the block that has a world -/
def blkOf (bs : List Int) (w : Nat) : Int := (bs.find? fun x => ib x w).getD 0
theorem Blk.of {m w : Nat} {bs : List Int} (h : Blk m bs) (hw : w < m) : blkOf bs w ∈ bs ∧ ib (blkOf bs w) w = true ∧ bs.find? (fun x => ib x w) = some (blkOf bs w) := by
  obtain ⟨x, hx, hi⟩ := h.un w hw
  unfold blkOf
  cases e : bs.find? fun x => ib x w with
  | none => rw [List.find?_eq_none] at e; exact absurd hi (e x hx)
  | some y => exact ⟨List.mem_of_find?_eq_some e, List.find?_some (p := fun x => ib x w) e, rfl⟩
theorem Blk.at {m w : Nat} {bs : List Int} {x : Int} (h : Blk m bs) (hw : w < m) (hx : x ∈ bs) (hi : ib x w = true) : blkOf bs w = x :=
  h.dj _ (h.of hw).1 x hx w (h.of hw).2.1 hi
theorem Blk.lt {m w : Nat} {bs : List Int} {x : Int} (h : Blk m bs) (hx : x ∈ bs) (hi : ib x w = true) : w < m := by
  refine Classical.byContradiction fun q => ?_
  rw [ib_lt (n := m) (by have := h.rg x hx; omega) (h.rg x hx).2 (by omega)] at hi
  cases hi
/-- the blocks that a test takes, together -/
def gather (p : Int → Bool) : List Int → Int → Int
  | [], w => w
  | x :: l, w => gather p l (if p x = true then Builtin.bitOr w x else w)
theorem ib_gather {p : Int → Bool} {i : Nat} : ∀ {l : List Int} {w : Int}, ib (gather p l w) i = true ↔ ib w i = true ∨ ∃ x ∈ l, p x = true ∧ ib x i = true
  | [], w => by simp [gather]
  | x :: l, w => by
    show ib (gather p l _) i = true ↔ _
    rw [ib_gather]
    by_cases q : p x = true
    · rw [if_pos q, ib_or, Bool.or_eq_true]
      simp only [List.mem_cons, exists_eq_or_imp, q, true_and, or_assoc]
    · rw [if_neg q]
      simp only [List.mem_cons, exists_eq_or_imp, q, false_and, false_or]
      simp
def within (one x : Int) : Bool := decide (Builtin.bitAnd x (Builtin.bitNot one) = 0)
def meets (one x : Int) : Bool := decide (Builtin.bitAnd x one ≠ 0)
def insideB (bs : List Int) (one : Int) : Int := gather (within one) bs 0
def touchedB (bs : List Int) (one : Int) : Int := gather (meets one) bs 0
theorem within_iff {one x : Int} : within one x = true ↔ sub x one := by unfold within; rw [decide_eq_true_eq, diff_zero]
theorem meets_iff {one x : Int} : meets one x = true ↔ ∃ i, ib x i = true ∧ ib one i = true := by
  unfold meets
  rw [decide_eq_true_eq, ne_zero_iff]
  simp only [ib_and, Bool.and_eq_true]
theorem ib_inside {m w : Nat} {bs : List Int} {one : Int} (h : Blk m bs) (hw : w < m) : ib (insideB bs one) w = within one (blkOf bs w) := by
  rw [Bool.eq_iff_iff]
  unfold insideB
  rw [ib_gather, ib_0]
  constructor
  · rintro (z | ⟨x, hx, p, hi⟩)
    · cases z
    · rw [h.at hw hx hi]; exact p
  · intro p
    exact .inr ⟨_, (h.of hw).1, p, (h.of hw).2.1⟩
theorem gather_range {p : Int → Bool} {m : Nat} {bs : List Int} (h : ∀ x ∈ bs, 0 < x ∧ x < 2 ^ m) : 0 ≤ gather p bs 0 ∧ gather p bs 0 < 2 ^ m := nonneg_of fun i hi => by
  cases q : ib (gather p bs 0) i with
  | false => rfl
  | true =>
    rw [ib_gather, ib_0] at q
    rcases q with z | ⟨x, hx, _, z⟩
    · cases z
    · rw [ib_lt (n := m) (by have := h x hx; omega) (h x hx).2 hi] at z
      cases z
theorem inside_is {m : Nat} {bs : List Int} {one : Int} (h : Blk m bs) : insideB bs one = setOf m fun w => within one (blkOf bs w) := by
  refine (setOf_eq (gather_range h.rg) fun w hw => ?_).symm
  exact (ib_inside h hw).symm
/-- blocks by marks -/
def markOf (m : Nat) (ts : List Int) (k : Int) : Int := setOf m fun w => decide (ts[w]? = some k)
theorem ib_mark {m w : Nat} {ts : List Int} {k : Int} : ib (markOf m ts k) w = true ↔ w < m ∧ ts[w]? = some k := by
  unfold markOf
  rw [ib_setOf, Bool.and_eq_true, decide_eq_true_eq, decide_eq_true_eq]
theorem blk_marks {m : Nat} {ts ys bs : List Int} (hl : ts.length = m) (y1 : ys.Pairwise (· < ·)) (y2 : ∀ k, k ∈ ys ↔ k ∈ ts) (p : bs.Perm (ys.map (markOf m ts))) (s : bs.Pairwise (· ≤ ·)) : Blk m bs := by
  have mem : ∀ x, x ∈ bs ↔ ∃ k ∈ ys, markOf m ts k = x := fun x => by rw [p.mem_iff, List.mem_map]
  have pos : ∀ k ∈ ys, ∃ w, w < m ∧ ts[w]? = some k := fun k hk => by
    obtain ⟨w, hw⟩ := List.mem_iff_getElem?.1 ((y2 k).1 hk)
    exact ⟨w, by have := (List.getElem?_eq_some_iff.1 hw).1; omega, hw⟩
  have inj : ∀ k ∈ ys, ∀ j ∈ ys, markOf m ts k = markOf m ts j → k = j := fun k hk j hj e => by
    obtain ⟨w, hw, hk'⟩ := pos k hk
    have := ib_mark.2 ⟨hw, hk'⟩
    rw [e, ib_mark] at this
    rw [hk'] at this
    exact Option.some.inj this.2
  have nd : bs.Nodup := by
    rw [p.nodup_iff]
    refine List.Pairwise.map (R := fun k j => k ∈ ys ∧ j ∈ ys ∧ k ≠ j) _ (fun a b h e => h.2.2 (inj a h.1 b h.2.1 e)) ?_
    exact List.Pairwise.imp_of_mem (fun {a b} ha hb lt => ⟨ha, hb, by omega⟩) y1
  refine ⟨strict_of s nd, fun x hx => ?_, fun x hx y hy i a b => ?_, fun i hi => ?_⟩
  · obtain ⟨k, hk, rfl⟩ := (mem x).1 hx
    obtain ⟨w, hw, hk'⟩ := pos k hk
    have r := setOf_range (n := m) (p := fun w => decide (ts[w]? = some k))
    have nz : markOf m ts k ≠ 0 := ne_zero_iff.2 ⟨w, ib_mark.2 ⟨hw, hk'⟩⟩
    have r1 : 0 ≤ markOf m ts k := r.1
    exact ⟨by omega, r.2⟩
  · obtain ⟨k, hk, rfl⟩ := (mem x).1 hx
    obtain ⟨j, hj, rfl⟩ := (mem y).1 hy
    rw [ib_mark] at a b
    rw [a.2] at b
    rw [Option.some.inj b.2]
  · have : i < ts.length := by omega
    exact ⟨markOf m ts ts[i], (mem _).2 ⟨ts[i], (y2 _).2 (List.getElem_mem this), rfl⟩, ib_mark.2 ⟨hi, List.getElem?_eq_getElem this⟩⟩
theorem Blk.len {m : Nat} {bs : List Int} (h : Blk m bs) : bs.length ≤ m := by
  -- each block has a least world of its own
  have key : ∀ (l : List Int), l.Pairwise (fun x y => ∀ i, ib x i = true → ib y i = true → False) → (∀ x ∈ l, ∃ i, i < m ∧ ib x i = true) → ∃ ws : List Nat, ws.length = l.length ∧ ws.Nodup ∧ (∀ w ∈ ws, w < m ∧ ∃ x ∈ l, ib x w = true) := fun l => by
    induction l with
    | nil => intro _ _; exact ⟨[], rfl, .nil, fun w hw => nomatch hw⟩
    | cons x l ih =>
      intro pw ne
      obtain ⟨p1, p2⟩ := List.pairwise_cons.1 pw
      obtain ⟨ws, e1, e2, e3⟩ := ih p2 fun y hy => ne y (List.mem_cons_of_mem _ hy)
      obtain ⟨i, hi, hx⟩ := ne x List.mem_cons_self
      refine ⟨i :: ws, by simp [e1], List.nodup_cons.2 ⟨fun z => ?_, e2⟩, fun w hw => ?_⟩
      · obtain ⟨_, y, hy, hi2⟩ := e3 i z
        exact p1 y hy i hx hi2
      · rcases List.mem_cons.1 hw with rfl | hw
        · exact ⟨hi, x, List.mem_cons_self, hx⟩
        · obtain ⟨a, y, hy, b⟩ := e3 w hw
          exact ⟨a, y, List.mem_cons_of_mem _ hy, b⟩
  obtain ⟨ws, e1, e2, e3⟩ := key bs h.pw fun x hx => by
    have r := h.rg x hx
    obtain ⟨i, hi⟩ := ne_zero_iff.1 (show x ≠ 0 by omega)
    exact ⟨i, h.lt hx hi, hi⟩
  rw [← e1]
  have := List.Nodup.length_le_of_subset e2 (l₂ := List.range m) fun w hw => List.mem_range.2 (e3 w hw).1
  simpa using this
end BB
set_option Elab.async false
set_option linter.all false
set_option maxRecDepth 100000
set_option autoImplicit false
set_option maxHeartbeats 2000000
/-! k59 -/
namespace BB
open PySem PySem.Spec PyProof.Rows L2
local macro_rules | `(tactic| simp_arith [$as,*]) => `(tactic| try simp [$as,*, -e_wbind, -e_wk, -e_wb2, -e_wb1, -e_wtest, -e_wand, -e_wor, -e_wnot, -e_wandV, -e_worV, -e_wnotV, -e_wif, -e_wchain, -e_wop, -e_witems, -e_sseq, -e_slift, -e_sdrop, -e_sret, -e_sif, -e_stry, -e_sapp, -e_sext, -e_runB, -e_sasg, -e_sasgF, -e_sasgT, -e_sfor, -e_wlst, -e_warg, -e_wnil, -e_wcons, -e_wnilC, -e_wconsC, -e_wtup, -e_wlis, -e_wlc, -e_wcall, -e_wsl, -e_wTupRg, -e_wLstRg, -e_wsel, ↓k_wbind, ↓k_wk, ↓k_wb2, ↓k_wb1, ↓k_wtest, ↓k_wand, ↓k_wor, ↓k_wnot, ↓k_wandV, ↓k_worV, ↓k_wnotV, ↓k_wif, ↓k_wchain, ↓k_wop, ↓k_witems, ↓k_sseq, ↓k_slift, ↓k_sdrop, ↓k_sret, ↓k_sif, ↓k_stry, ↓k_sapp, ↓k_sext, ↓k_wlst, ↓k_warg, ↓k_wnil, ↓k_wcons, ↓k_wnilC, ↓k_wconsC, ↓k_wtup, ↓k_wlis, ↓k_wlc, ↓k_wcall, ↓k_wsl, ↓k_wTupRg, ↓k_wLstRg, ↓k_wsel, ↓k_wrep, ↓k_wcat, ↓k_wlc2, ↓k_spop, ↓k_spopAt, ↓k_sdone, ↓k_wdget, ↓k_wdgetX, ↓k_sdput, ↓k_wdin, ↓k_wlenD, ↓k_wdc, ↓k_sasgD, ↓k_wsortD, ↓k_sdnew, ↓k_windex, ↓k_sset2, ↓k_slock, ↓k_wlock, ↓k_wkeysL, ↓k_wdinL, ↓k_sasg, ↓k_sasgF, ↓k_sasgT, ↓k_sfor, ↓k_runB, sizeLine_eq])
local macro_rules | `(tactic| simp_arith) => `(tactic| try simp [-e_wbind, -e_wk, -e_wb2, -e_wb1, -e_wtest, -e_wand, -e_wor, -e_wnot, -e_wandV, -e_worV, -e_wnotV, -e_wif, -e_wchain, -e_wop, -e_witems, -e_sseq, -e_slift, -e_sdrop, -e_sret, -e_sif, -e_stry, -e_sapp, -e_sext, -e_runB, -e_sasg, -e_sasgF, -e_sasgT, -e_sfor, -e_wlst, -e_warg, -e_wnil, -e_wcons, -e_wnilC, -e_wconsC, -e_wtup, -e_wlis, -e_wlc, -e_wcall, -e_wsl, -e_wTupRg, -e_wLstRg, -e_wsel, ↓k_wbind, ↓k_wk, ↓k_wb2, ↓k_wb1, ↓k_wtest, ↓k_wand, ↓k_wor, ↓k_wnot, ↓k_wandV, ↓k_worV, ↓k_wnotV, ↓k_wif, ↓k_wchain, ↓k_wop, ↓k_witems, ↓k_sseq, ↓k_slift, ↓k_sdrop, ↓k_sret, ↓k_sif, ↓k_stry, ↓k_sapp, ↓k_sext, ↓k_wlst, ↓k_warg, ↓k_wnil, ↓k_wcons, ↓k_wnilC, ↓k_wconsC, ↓k_wtup, ↓k_wlis, ↓k_wlc, ↓k_wcall, ↓k_wsl, ↓k_wTupRg, ↓k_wLstRg, ↓k_wsel, ↓k_wrep, ↓k_wcat, ↓k_wlc2, ↓k_spop, ↓k_spopAt, ↓k_sdone, ↓k_wdget, ↓k_wdgetX, ↓k_sdput, ↓k_wdin, ↓k_wlenD, ↓k_wdc, ↓k_sasgD, ↓k_wsortD, ↓k_sdnew, ↓k_windex, ↓k_sset2, ↓k_slock, ↓k_wlock, ↓k_wkeysL, ↓k_wdinL, ↓k_sasg, ↓k_sasgF, ↓k_sasgT, ↓k_sfor, ↓k_runB, sizeLine_eq])
/-! frames and groups, more; a cell of a list set -/
section
variable {ds : List D} {d : D} {δ : Env} {b : Nat} {RO : Out → Nat → Prop} {i : Nat} {fj f : Env → Wp D}
def KSe2 (i : Nat) (ds : List D) (d : D) (δ : Env) (R : Out → Nat → Prop) : Except Er D → Nat → Prop := fun r b'' => match r with
  | .error e => R (.er e) b''
  | .ok (.int j) => ∃ m, L2.ixN ds.length j = some m ∧ R (.nx (δ.set i (some (.own (ds.set m d))))) b''
  | .ok _ => False
def KSe (i : Nat) (ds : List D) (fj : Env → Wp D) (δ : Env) (R : Out → Nat → Prop) : Except Er D → Nat → Prop := fun r b' => match r with
  | .error e => R (.er e) b'
  | .ok d => fj δ b' (KSe2 i ds d δ R)
@[simp ↓] theorem k_sset : sset i fj f δ b RO = match δ[i]? with
  | some (some (.own ds)) => f δ b (KSe i ds fj δ RO)
  | _ => False := id rfl
@[simp ↓] theorem KSe_ok : KSe i ds fj δ RO (.ok d) b = fj δ b (KSe2 i ds d δ RO) := id rfl
@[simp ↓] theorem KSe2_ok {j : Int} : KSe2 i ds d δ RO (.ok (.int j)) b = ∃ m, L2.ixN ds.length j = some m ∧ RO (.nx (δ.set i (some (.own (ds.set m d))))) b := id rfl
end
theorem ixN_in {n : Nat} {j : Int} (h0 : 0 ≤ j) (h1 : j < n) : L2.ixN n j = some j.toNat := by
  unfold L2.ixN
  rw [if_pos h0, if_pos h1]
theorem set_map {α : Type} {m k : Nat} {f : Nat → α} {v : α} : ((List.range m).map f).set k v = (List.range m).map fun w => if w = k then v else f w := by
  refine List.ext_getElem? fun j => ?_
  rw [List.getElem?_set, List.getElem?_map, List.getElem?_map, List.length_map, List.length_range]
  by_cases e : k = j
  · subst e
    by_cases l : k < m
    · simp [l]
    · simp [l]
  · rw [if_neg e]
    by_cases l : j < m
    · simp [l, show ¬ j = k from fun z => e z.symm]
    · simp [l]
def frA (fr : List (List Int)) (k : Int) : List Int := (fr[k.toNat]?).getD []
theorem frA_mem {fr : List (List Int)} {k : Int} (h0 : 0 ≤ k) (h1 : k < fr.length) : frA fr k ∈ fr := by
  unfold frA
  rw [List.getElem?_eq_getElem (show k.toNat < fr.length by omega)]
  exact List.getElem_mem _
theorem atF {fr : List (List Int)} {k : Int} (h0 : 0 ≤ k) (h1 : k < fr.length) : atI (fr.map encI) k = some (encI (frA fr k)) := by
  have : (fr.map encI)[k.toNat]? = some (encI (frA fr k)) := by
    unfold frA
    rw [List.getElem?_map, List.getElem?_eq_getElem (show k.toNat < fr.length by omega)]
    rfl
  have := atI_nat this
  rwa [show ((k.toNat : Nat) : Int) = k by omega] at this
theorem checkGroup_ok {n : Nat} {g : List Int} {y : D} (h : checkGroup n g = .ok y) : g ≠ [] ∧ Asc g ∧ (∀ k ∈ g, 0 ≤ k ∧ k < n) ∧ y = .none := by
  unfold checkGroup at h
  split at h
  · rename_i c; cases h; exact ⟨c.1, c.2.1, c.2.2, rfl⟩
  · cases h
structure Grp (n : Nat) (g : List Int) : Prop where
  ne : g ≠ []
  as : Asc g
  rg : ∀ k ∈ g, 0 ≤ k ∧ k < n
theorem Grp.len {n : Nat} {g : List Int} (h : Grp n g) : g.length ≤ n := by
  have := len_of (n := (n : Int)) (by omega) (h.as.imp fun {a b} (z : a < b) => by omega) h.rg
  omega
theorem Grp.is {n : Nat} {g : List Int} (h : Grp n g) : checkGroup n g = .ok .none := by
  unfold checkGroup
  rw [if_pos ⟨h.ne, h.as, h.rg⟩]
theorem grp_ok {n : Nat} {g : List Int} {y : D} (h : checkGroup n g = .ok y) : Grp n g := ⟨(checkGroup_ok h).1, (checkGroup_ok h).2.1, (checkGroup_ok h).2.2.1⟩
theorem Frm.blk {m : Nat} {fr : List (List Int)} {k : Int} (h : Frm m fr) (h0 : 0 ≤ k) (h1 : k < fr.length) : Blk m (frA fr k) := h.b _ (frA_mem h0 h1)
theorem checkBlocks_er {m : Int} {bs : List Int} {e : Er} (h : checkBlocks m bs = .error e) : e = .na := by
  unfold checkBlocks at h
  split at h
  · split at h
    · split at h
      · cases h
      · cases h; rfl
    · cases h; rfl
  · cases h; rfl
theorem checkAllB_er {m : Int} {e : Er} : ∀ {fr : List (List Int)}, checkAllB m fr = .error e → e = .na
  | [], h => by cases h
  | bs :: l, h => by
    unfold checkAllB at h
    cases q : checkBlocks m bs with
    | error z => rw [q] at h; cases h; exact checkBlocks_er q
    | ok z => rw [q] at h; exact checkAllB_er (fr := l) h
theorem many_is {m : Nat} (m1 : 1 ≤ m) (m2 : m ≤ 32) : checkMany (m : Int) = .ok .none := by
  unfold checkMany
  rw [if_neg (by omega), if_neg (by omega)]
theorem frame_no {m : Nat} {fr : List (List Int)} (m1 : 1 ≤ m) (m2 : m ≤ 32) (l : fr.length ≤ 6) (h : ∃ bs ∈ fr, ¬ Blk m bs) : checkFrame (m : Int) fr = .error .na := by
  cases e : checkFrame (m : Int) fr with
  | ok y =>
    obtain ⟨_, hf, _⟩ := checkFrame_ok e
    rw [Int.toNat_natCast] at hf
    obtain ⟨bs, hb, n⟩ := h
    exact absurd (hf.b bs hb) n
  | error z =>
    unfold checkFrame at e
    rw [many_is m1 m2] at e
    have e : (if 6 < fr.length then .error .tl else if fr.length = 0 then .error .na else checkAllB m fr : Except Er D) = .error z := e
    rw [if_neg (by omega)] at e
    split at e
    · cases e; rfl
    · rw [checkAllB_er e]
theorem frame_nil {m : Nat} (m1 : 1 ≤ m) (m2 : m ≤ 32) : checkFrame (m : Int) [] = .error .na := by
  unfold checkFrame
  rw [many_is m1 m2]; rfl
theorem cut_last {ds : List D} : cutD ds (some (-1)) none = ds.drop (ds.length - 1) := by
  unfold cutD
  simp [HT.sIx]
  by_cases h : ds = []
  · subst h; rfl
  · have := List.length_pos_iff.2 h
    rw [show (-1 + (ds.length : Int)).toNat = ds.length - 1 by omega, List.take_of_length_le (by simp)]
theorem nb1 {m : Nat} {h : Int} {t : List Int} (b : Blk m (h :: t)) : ¬ Blk m t := fun c => by
  have r := b.rg h List.mem_cons_self
  obtain ⟨i, hi⟩ := ne_zero_iff.1 (show h ≠ 0 by omega)
  obtain ⟨x, hx, z⟩ := c.un i (b.lt List.mem_cons_self hi)
  have e := b.dj x (List.mem_cons_of_mem _ hx) h List.mem_cons_self i z hi
  have := (List.pairwise_cons.1 b.as).1 x hx
  omega
theorem nb2 {bs : List Int} (ne : bs ≠ []) : ¬ Asc (bs ++ bs.drop (bs.length - 1)) := fun c => by
  rcases List.eq_nil_or_concat bs with rfl | ⟨l, x, rfl⟩
  · exact ne rfl
  · rw [List.concat_eq_append] at c
    have e : (l ++ [x]).drop ((l ++ [x]).length - 1) = [x] := by simp
    rw [e] at c
    have := (List.pairwise_append.1 c).2.2 x (by simp) x (by simp)
    omega
theorem nb3 {m : Nat} {bs : List Int} : ¬ Blk m (bs ++ [2 ^ m]) := fun c => by
  have := c.rg (2 ^ m) (by simp)
  omega
theorem nb4 {m : Nat} {bs : List Int} : ¬ Blk m (0 :: bs) := fun c => by
  have := c.rg 0 List.mem_cons_self
  omega
theorem nb5 {m : Nat} {h : Int} : ¬ Blk m [h, h] := fun c => by
  have := (List.pairwise_cons.1 c.as).1 h (by simp)
  omega
theorem group_no {n : Nat} {g : List Int} (h : ¬ (g ≠ [] ∧ Asc g ∧ ∀ k ∈ g, 0 ≤ k ∧ k < n)) : checkGroup n g = .error .na := by
  unfold checkGroup
  rw [if_neg h]
theorem group_end {n : Nat} : checkGroup n [(n : Int)] = .error .na := group_no fun h => by
  have := h.2.2 n (by simp)
  omega
theorem set_no {m : Nat} (m1 : 1 ≤ m) (m2 : m ≤ 32) : checkSet (m : Int) (2 ^ m) = .error .na := by
  unfold checkSet
  rw [many_is m1 m2]
  show (if (2 : Int) ^ m < 0 ∨ 2 ^ (m : Int).toNat ≤ 2 ^ m then (Except.error Er.na : Except Er D) else Except.ok PyData.none) = _
  rw [Int.toNat_natCast, if_pos (by omega)]
theorem Blk.ne {m : Nat} {bs : List Int} (h : Blk m bs) (m1 : 1 ≤ m) : bs ≠ [] := by
  obtain ⟨x, hx, _⟩ := h.un 0 m1
  exact fun e => by subst e; cases hx
theorem kRepr_F {fr : List (List Int)} {b : Nat} {R : Except Er D → Nat → Prop} : kRepr (encF fr) b R = (reprOk (encF fr) ∧ R (.ok (.str (encF fr).shown)) b) := id rfl
theorem sm_encF {m : Nat} {fr : List (List Int)} (hf : Frm m fr) : Sm 2 8000 (encF fr) := by
  refine (sm_tuple (dp := 1) (wt := 1312) (n := 6) (fun d hd => ?_) (by rw [List.length_map]; exact hf.l6)).mono (by decide) (by decide)
  obtain ⟨bs, hbs, rfl⟩ := List.mem_map.1 hd
  have bk := hf.b bs hbs
  have p : (2 : Int) ^ m ≤ 2 ^ 32 := by exact_mod_cast Nat.pow_le_pow_right (n := 2) (by decide) hf.m2
  exact sm_encI (n := 32) (M := 2 ^ 32) (by decide) (fun x hx => by have := bk.rg x hx; omega) (Nat.le_trans bk.len hf.m2)
theorem set_is {m : Nat} {one : Int} (m1 : 1 ≤ m) (m2 : m ≤ 32) (o0 : 0 ≤ one) (o1 : one < 2 ^ m) : checkSet (m : Int) one = .ok .none := by
  have e : checkMany (m : Int) = .ok .none := by
    unfold checkMany
    rw [if_neg (by omega), if_neg (by omega)]
  unfold checkSet
  rw [e]
  show (if one < 0 ∨ 2 ^ (m : Int).toNat ≤ one then (Except.error Er.na : Except Er D) else Except.ok PyData.none) = Except.ok PyData.none
  rw [Int.toNat_natCast, if_neg (by omega)]
theorem Frm.short {m : Nat} {fr : List (List Int)} (hf : Frm m fr) : ∀ bs ∈ fr, bs.length < 64 := fun bs h => by
  have := (hf.b bs h).len
  have := hf.m2
  omega
theorem wComp_dd {G : TgW} {e : Env → Wp D} {δ : Env} {b : Nat} (F : D → D) {ds : List D} {R : List D → Nat → Prop} (h : ∀ d ∈ ds, ∀ Rt : D → Nat → Prop, Rt (F d) b → G d δ fun δ1 => e δ1 b (KCe Rt)) (hr : R (ds.map F) b) : wComp G wyes e ds δ b R := by
  have := wComp_ak (G := G) (e := e) (δ := δ) (b := b) (R := R) id F (xs := ds) h hr
  rwa [List.map_id] at this
theorem sm_blk {m : Nat} {bs : List Int} (h : Blk m bs) (m2 : m ≤ 32) : Sm 1 1400 (encI bs) := by
  have p : (2 : Int) ^ m ≤ 2 ^ 32 := by exact_mod_cast Nat.pow_le_pow_right (n := 2) (by decide) m2
  exact (sm_encI (n := 32) (M := 2 ^ 32) (by decide) (fun x hx => by have := h.rg x hx; omega) (Nat.le_trans h.len m2)).mono (by decide) (by decide)
theorem sm_set {m : Nat} {x : Int} (h : 0 ≤ x ∧ x < 2 ^ m) (m2 : m ≤ 32) : Sm 1 1400 (.int x) := by
  have p : (2 : Int) ^ m ≤ 2 ^ 32 := by exact_mod_cast Nat.pow_le_pow_right (n := 2) (by decide) m2
  exact (sm_int (by omega) (by omega)).mono (by decide) (by decide)
theorem blk_cls {m : Nat} {f : Nat → Int} {E : Nat → Nat → Prop} {bs : List Int} (er : ∀ w, E w w) (es : ∀ {w v}, E w v → E v w) (et : ∀ {u v w}, E u v → E v w → E u w)
    (hf : ∀ w, w < m → ∀ v, ib (f w) v = true ↔ v < m ∧ E w v) (s : Asc bs) (mem : ∀ x, x ∈ bs ↔ ∃ w, w < m ∧ f w = x) : Blk m bs ∧ ∀ w, w < m → blkOf bs w = f w := by
  have self : ∀ w, w < m → ib (f w) w = true := fun w hw => (hf w hw w).2 ⟨hw, er w⟩
  have bk : Blk m bs := by
    refine ⟨s, fun x hx => ?_, fun x hx y hy i a b => ?_, fun i hi => ⟨f i, (mem _).2 ⟨i, hi, rfl⟩, self i hi⟩⟩
    · obtain ⟨w, hw, rfl⟩ := (mem x).1 hx
      have r : 0 ≤ f w ∧ f w < 2 ^ m := nonneg_of fun i hi => by
        cases q : ib (f w) i with
        | false => rfl
        | true => have := ((hf w hw i).1 q).1; omega
      have nz : f w ≠ 0 := ne_zero_iff.2 ⟨w, self w hw⟩
      exact ⟨by omega, r.2⟩
    · obtain ⟨w, hw, rfl⟩ := (mem x).1 hx
      obtain ⟨v, hv, rfl⟩ := (mem y).1 hy
      have h1 := ((hf w hw i).1 a).2
      have h2 := ((hf v hv i).1 b).2
      have e : E w v := et h1 (es h2)
      refine ib_ext fun j => ?_
      rw [Bool.eq_iff_iff, hf w hw, hf v hv]
      exact and_congr_right fun _ => ⟨fun z => et (es e) z, fun z => et e z⟩
  exact ⟨bk, fun w hw => bk.at hw ((mem _).2 ⟨w, hw, rfl⟩) (self w hw)⟩
theorem ib_touch {m w : Nat} {bs : List Int} (h : Blk m bs) (hw : w < m) {v : Nat} : ib (touchedB bs (2 ^ w)) v = true ↔ ib (blkOf bs w) v = true := by
  unfold touchedB
  rw [ib_gather, ib_0]
  simp only [Bool.false_eq_true, false_or]
  constructor
  · rintro ⟨x, hx, q, hv⟩
    obtain ⟨i, h1, h2⟩ := meets_iff.1 q
    rw [ib_pow, decide_eq_true_eq] at h2
    subst h2
    rw [h.at hw hx h1]; exact hv
  · intro hv
    exact ⟨_, (h.of hw).1, meets_iff.2 ⟨w, (h.of hw).2.1, by rw [ib_pow, decide_eq_true rfl]⟩, hv⟩
theorem blk_same {m w v : Nat} {bs : List Int} (h : Blk m bs) (hw : w < m) : ib (blkOf bs w) v = true ↔ v < m ∧ blkOf bs v = blkOf bs w := by
  constructor
  · intro z
    have hv := h.lt (h.of hw).1 z
    exact ⟨hv, h.at hv (h.of hw).1 z⟩
  · rintro ⟨hv, e⟩
    rw [← e]; exact (h.of hv).2.1
def blksOf (fr : List (List Int)) (g : List Int) : List Int := g.flatMap (frA fr)
theorem blks_rg {m : Nat} {fr : List (List Int)} {g : List Int} (hf : Frm m fr) (hg : Grp fr.length g) : ∀ x ∈ blksOf fr g, 0 < x ∧ x < 2 ^ m := fun x hx => by
  obtain ⟨k, hk, hx⟩ := List.mem_flatMap.1 hx
  exact (hf.blk (hg.rg k hk).1 (hg.rg k hk).2).rg x hx
theorem blks_cov {m : Nat} {fr : List (List Int)} {g : List Int} (hf : Frm m fr) (hg : Grp fr.length g) : ∀ i, i < m → ∃ x ∈ blksOf fr g, ib x i = true := fun i hi => by
  obtain ⟨k, l, rfl⟩ := List.exists_cons_of_ne_nil hg.ne
  have hk := hg.rg k List.mem_cons_self
  obtain ⟨x, hx, z⟩ := (hf.blk hk.1 hk.2).un i hi
  exact ⟨x, List.mem_flatMap.2 ⟨k, List.mem_cons_self, hx⟩, z⟩
theorem flat_len {α β : Type} (f : α → List β) (c : Nat) : ∀ (l : List α), (∀ x ∈ l, (f x).length ≤ c) → (l.flatMap f).length ≤ l.length * c
  | [], _ => by simp
  | x :: l, h => by
    have := flat_len f c l fun y hy => h y (List.mem_cons_of_mem _ hy)
    have := h x List.mem_cons_self
    rw [List.flatMap_cons, List.length_append, List.length_cons, Nat.add_mul]
    omega
theorem blks_len {m : Nat} {fr : List (List Int)} {g : List Int} (hf : Frm m fr) (hg : Grp fr.length g) : (blksOf fr g).length ≤ 192 := by
  have := flat_len (frA fr) 32 g fun k hk => Nat.le_trans (hf.blk (hg.rg k hk).1 (hg.rg k hk).2).len hf.m2
  have := hg.len
  have := hf.l6
  unfold blksOf
  omega
end BB
set_option Elab.async false
set_option linter.all false
set_option maxRecDepth 100000
set_option autoImplicit false
set_option maxHeartbeats 2000000
/-! k59 -/
namespace BB
open PySem PySem.Spec PyProof.Rows L2
local macro_rules | `(tactic| simp_arith [$as,*]) => `(tactic| try simp [$as,*, -e_wbind, -e_wk, -e_wb2, -e_wb1, -e_wtest, -e_wand, -e_wor, -e_wnot, -e_wandV, -e_worV, -e_wnotV, -e_wif, -e_wchain, -e_wop, -e_witems, -e_sseq, -e_slift, -e_sdrop, -e_sret, -e_sif, -e_stry, -e_sapp, -e_sext, -e_runB, -e_sasg, -e_sasgF, -e_sasgT, -e_sfor, -e_wlst, -e_warg, -e_wnil, -e_wcons, -e_wnilC, -e_wconsC, -e_wtup, -e_wlis, -e_wlc, -e_wcall, -e_wsl, -e_wTupRg, -e_wLstRg, -e_wsel, ↓k_wbind, ↓k_wk, ↓k_wb2, ↓k_wb1, ↓k_wtest, ↓k_wand, ↓k_wor, ↓k_wnot, ↓k_wandV, ↓k_worV, ↓k_wnotV, ↓k_wif, ↓k_wchain, ↓k_wop, ↓k_witems, ↓k_sseq, ↓k_slift, ↓k_sdrop, ↓k_sret, ↓k_sif, ↓k_stry, ↓k_sapp, ↓k_sext, ↓k_wlst, ↓k_warg, ↓k_wnil, ↓k_wcons, ↓k_wnilC, ↓k_wconsC, ↓k_wtup, ↓k_wlis, ↓k_wlc, ↓k_wcall, ↓k_wsl, ↓k_wTupRg, ↓k_wLstRg, ↓k_wsel, ↓k_wrep, ↓k_wcat, ↓k_wlc2, ↓k_spop, ↓k_spopAt, ↓k_sdone, ↓k_wdget, ↓k_wdgetX, ↓k_sdput, ↓k_wdin, ↓k_wlenD, ↓k_wdc, ↓k_sasgD, ↓k_wsortD, ↓k_sdnew, ↓k_windex, ↓k_sset2, ↓k_slock, ↓k_wlock, ↓k_wkeysL, ↓k_wdinL, ↓k_sasg, ↓k_sasgF, ↓k_sasgT, ↓k_sfor, ↓k_runB, sizeLine_eq])
local macro_rules | `(tactic| simp_arith) => `(tactic| try simp [-e_wbind, -e_wk, -e_wb2, -e_wb1, -e_wtest, -e_wand, -e_wor, -e_wnot, -e_wandV, -e_worV, -e_wnotV, -e_wif, -e_wchain, -e_wop, -e_witems, -e_sseq, -e_slift, -e_sdrop, -e_sret, -e_sif, -e_stry, -e_sapp, -e_sext, -e_runB, -e_sasg, -e_sasgF, -e_sasgT, -e_sfor, -e_wlst, -e_warg, -e_wnil, -e_wcons, -e_wnilC, -e_wconsC, -e_wtup, -e_wlis, -e_wlc, -e_wcall, -e_wsl, -e_wTupRg, -e_wLstRg, -e_wsel, ↓k_wbind, ↓k_wk, ↓k_wb2, ↓k_wb1, ↓k_wtest, ↓k_wand, ↓k_wor, ↓k_wnot, ↓k_wandV, ↓k_worV, ↓k_wnotV, ↓k_wif, ↓k_wchain, ↓k_wop, ↓k_witems, ↓k_sseq, ↓k_slift, ↓k_sdrop, ↓k_sret, ↓k_sif, ↓k_stry, ↓k_sapp, ↓k_sext, ↓k_wlst, ↓k_warg, ↓k_wnil, ↓k_wcons, ↓k_wnilC, ↓k_wconsC, ↓k_wtup, ↓k_wlis, ↓k_wlc, ↓k_wcall, ↓k_wsl, ↓k_wTupRg, ↓k_wLstRg, ↓k_wsel, ↓k_wrep, ↓k_wcat, ↓k_wlc2, ↓k_spop, ↓k_spopAt, ↓k_sdone, ↓k_wdget, ↓k_wdgetX, ↓k_sdput, ↓k_wdin, ↓k_wlenD, ↓k_wdc, ↓k_sasgD, ↓k_wsortD, ↓k_sdnew, ↓k_windex, ↓k_sset2, ↓k_slock, ↓k_wlock, ↓k_wkeysL, ↓k_wdinL, ↓k_sasg, ↓k_sasgF, ↓k_sasgT, ↓k_sfor, ↓k_runB, sizeLine_eq])
/-! fractions -/
def qt (n d : Int) : Rat := (n : Rat) / (d : Rat)
theorem qt_num {n d : Int} (h : 0 < d) : (qt n d).num = n / (Nat.gcd n.natAbs d.natAbs : Nat) := by
  unfold qt
  rw [← Rat.divInt_eq_div, Rat.num_divInt, Int.sign_eq_one_of_pos h, Int.one_mul, Int.gcd, Nat.gcd_comm]
theorem qt_den {n d : Int} (h : 0 < d) : ((qt n d).den : Int) = d / (Nat.gcd n.natAbs d.natAbs : Nat) := by
  unfold qt
  rw [← Rat.divInt_eq_div, Rat.den_divInt, if_neg (by omega), Int.gcd, Nat.gcd_comm]
  push_cast
  rw [Int.natAbs_of_nonneg (by omega)]
theorem qt_self (q : Rat) : qt q.num q.den = q := by
  unfold qt
  rw [← Rat.divInt_eq_div]; exact Rat.num_divInt_den q
theorem den_pos (q : Rat) : (0 : Int) < q.den := by have := q.den_nz; omega
theorem den_ne (q : Rat) : ((q.den : Int) : Rat) ≠ 0 := by
  have := q.den_nz
  intro z
  rw [Rat.intCast_eq_zero_iff] at z; omega
theorem ne_cast {d : Int} (h : 0 < d) : (d : Rat) ≠ 0 := fun z => by rw [Rat.intCast_eq_zero_iff] at z; omega
theorem qt_addp {n d n' d' : Int} (h : 0 < d) (h' : 0 < d') : qt (n * d' + n' * d) (d * d') = qt n d + qt n' d' := by
  have a := ne_cast h
  have b := ne_cast h'
  unfold qt
  rw [Rat.intCast_add, Rat.intCast_mul, Rat.intCast_mul, Rat.intCast_mul]
  grind
theorem qt_mulp {n d n' d' : Int} (h : 0 < d) (h' : 0 < d') : qt (n * n') (d * d') = qt n d * qt n' d' := by
  have a := ne_cast h
  have b := ne_cast h'
  unfold qt
  rw [Rat.intCast_mul, Rat.intCast_mul]
  grind
theorem qt_one (n : Int) : qt n 1 = (n : Rat) := by
  unfold qt
  have : ((1 : Int) : Rat) = 1 := rfl
  rw [this]; grind
theorem qt_zero {d : Int} : qt 0 d = 0 := by
  unfold qt
  have : ((0 : Int) : Rat) = 0 := rfl
  rw [this]; grind
/-- a pair of numbers, and a fraction -/
def encP (n d : Int) : D := .tuple [.int n, .int d]
def encR (q : Rat) : D := encP q.num q.den
structure Pr (B : Nat) (n d : Int) : Prop where
  pos : 0 < d
  nb : n.natAbs < 2 ^ B
  db : d.natAbs < 2 ^ B
structure Bq (B : Nat) (q : Rat) : Prop where
  n : q.num.natAbs < 2 ^ B
  d : q.den < 2 ^ B
theorem pow_le {a b : Nat} (h : a ≤ b) : 2 ^ a ≤ 2 ^ b := Nat.pow_le_pow_right (by decide) h
theorem Bq.mono {A B : Nat} {q : Rat} (h : Bq A q) (l : A ≤ B) : Bq B q := ⟨Nat.lt_of_lt_of_le h.n (pow_le l), Nat.lt_of_lt_of_le h.d (pow_le l)⟩
theorem Pr.mono {A B : Nat} {n d : Int} (h : Pr A n d) (l : A ≤ B) : Pr B n d := ⟨h.pos, Nat.lt_of_lt_of_le h.nb (pow_le l), Nat.lt_of_lt_of_le h.db (pow_le l)⟩
theorem Bq.pr {B : Nat} {q : Rat} (h : Bq B q) : Pr B q.num q.den := ⟨den_pos q, h.n, by rw [Int.natAbs_natCast]; exact h.d⟩
theorem ediv_natAbs_le {n : Int} {k : Nat} : (n / (k : Int)).natAbs ≤ n.natAbs := by
  rcases Nat.eq_zero_or_pos k with rfl | h
  · simp
  · exact Int.natAbs_ediv_le_natAbs n k
theorem Pr.bq {B : Nat} {n d : Int} (h : Pr B n d) : Bq B (qt n d) := by
  refine ⟨?_, ?_⟩
  · rw [qt_num h.pos]
    exact Nat.lt_of_le_of_lt ediv_natAbs_le h.nb
  · have e := qt_den (n := n) h.pos
    have := ediv_natAbs_le (n := d) (k := Nat.gcd n.natAbs d.natAbs)
    rw [← e, Int.natAbs_natCast] at this
    exact Nat.lt_of_le_of_lt this h.db
theorem pos_mul2 {d d' : Int} (h : 0 < d) (h' : 0 < d') : 0 < d * d' := Int.mul_pos h h'
theorem Pr.mul {A B : Nat} {n d n' d' : Int} (h : Pr A n d) (h' : Pr B n' d') : Pr (A + B) (n * n') (d * d') :=
  ⟨pos_mul2 h.pos h'.pos, by rw [Int.natAbs_mul, Nat.pow_add]; exact Nat.mul_lt_mul'' h.nb h'.nb, by rw [Int.natAbs_mul, Nat.pow_add]; exact Nat.mul_lt_mul'' h.db h'.db⟩
theorem Pr.add {A B : Nat} {n d n' d' : Int} (h : Pr A n d) (h' : Pr B n' d') : Pr (A + B + 1) (n * d' + n' * d) (d * d') := by
  have m1 := Nat.mul_lt_mul'' h.nb h'.db
  have m2 := Nat.mul_lt_mul'' h'.nb h.db
  have m3 := Nat.mul_lt_mul'' h.db h'.db
  rw [← Nat.pow_add] at m1 m2 m3
  rw [Nat.add_comm B A] at m2
  have l := Int.natAbs_add_le (n * d') (n' * d)
  rw [Int.natAbs_mul, Int.natAbs_mul] at l
  refine ⟨pos_mul2 h.pos h'.pos, ?_, ?_⟩
  · rw [Nat.pow_succ]; omega
  · rw [Int.natAbs_mul, Nat.pow_succ]; omega
theorem Bq.add {A B : Nat} {q r : Rat} (h : Bq A q) (h' : Bq B r) : Bq (A + B + 1) (q + r) := by
  have := (h.pr.add h'.pr).bq
  rwa [qt_addp (den_pos q) (den_pos r), qt_self, qt_self] at this
theorem Bq.mul {A B : Nat} {q r : Rat} (h : Bq A q) (h' : Bq B r) : Bq (A + B) (q * r) := by
  have := (h.pr.mul h'.pr).bq
  rwa [qt_mulp (den_pos q) (den_pos r), qt_self, qt_self] at this
theorem bq0 : Bq 1 0 := ⟨by decide, by decide⟩
theorem bq1 : Bq 1 1 := ⟨by decide, by decide⟩
theorem encR0 : encR 0 = encP 0 1 := rfl
theorem encR1 : encR 1 = encP 1 1 := rfl
theorem encP_inj {a b c d : Int} (h : encP a b = encP c d) : a = c ∧ b = d := by
  unfold encP at h
  injection h with h
  injection h with h1 h2
  injection h2 with h2 _
  injection h1 with h1
  injection h2 with h2
  exact ⟨h1, h2⟩
theorem encR_inj {q r : Rat} (h : encR q = encR r) : q = r := by
  obtain ⟨a, b⟩ := encP_inj h
  exact Rat.ext a (by omega)
theorem eqv_encP {a b c d : Int} : PyData.eqv (encP a b) (encP c d) = decide (a = c ∧ b = d) := by
  have := eqv_ints (ns := [a, b]) (ms := [c, d])
  rw [show encP a b = .tuple ([a, b].map PyData.int) from rfl, show encP c d = .tuple ([c, d].map PyData.int) from rfl, this]
  simp
theorem eqv_encR {q r : Rat} : PyData.eqv (encR q) (encR r) = decide (q = r) := by
  unfold encR
  rw [eqv_encP]
  refine decide_eq_decide.2 ⟨fun h => Rat.ext h.1 (by omega), fun h => by rw [h]; exact ⟨rfl, rfl⟩⟩
/-- a pair in lowest terms is its fraction -/
theorem low_is {n d : Int} (h : 0 < d) (g : Nat.gcd n.natAbs d.natAbs = 1) : encR (qt n d) = encP n d := by
  unfold encR
  rw [qt_num h, qt_den h, g]
  simp
theorem low_iff {n d : Int} (h : 0 < d) : encR (qt n d) = encP n d ↔ Nat.gcd n.natAbs d.natAbs = 1 := by
  refine ⟨fun e => ?_, low_is h⟩
  have := (encP_inj (show encP (qt n d).num (qt n d).den = encP n d from e)).2
  have r := (qt n d).reduced
  have e1 := (encP_inj (show encP (qt n d).num (qt n d).den = encP n d from e)).1
  rw [e1] at r
  have e2 : (qt n d).den = d.natAbs := by omega
  rw [e2] at r
  exact r
/-- Euclid's steps -/
def Euc (a b n : Nat) : Prop := ∃ m, (2 * m ≤ n ∧ b < 2 ^ m) ∨ (2 * m + 1 ≤ n ∧ b ≤ a ∧ a < 2 ^ (m + 1))
theorem euc_step {a b n : Nat} (h : Euc a b (n + 1)) (hb : b ≠ 0) : Euc b (a % b) n := by
  obtain ⟨m, h | h⟩ := h
  · cases m with
    | zero => exfalso; have := h.2; simp at this; omega
    | succ m =>
      have := Nat.mod_lt a (show b > 0 by omega)
      exact ⟨m, .inr ⟨by omega, by omega, h.2⟩⟩
  · refine ⟨m, .inl ⟨by omega, ?_⟩⟩
    have h1 := Nat.mod_lt a (show b > 0 by omega)
    have h2 := Nat.div_add_mod a b
    have h3 : b * (a / b) ≥ b * 1 := Nat.mul_le_mul_left b (Nat.div_pos h.2.1 (by omega))
    have h4 := h.2.2
    rw [Nat.pow_succ] at h4
    omega
theorem euc_end {a b : Nat} (h : Euc a b 0) : b = 0 := by
  obtain ⟨m, h | h⟩ := h
  · have : m = 0 := by omega
    subst this
    have := h.2; simp at this; omega
  · omega
/-- data of bounded depth, weight, of numbers of at most B signs -/
structure Sb (B dp wt : Nat) (d : D) : Prop where
  lay : d.canLay0 = true
  dep : d.depth ≤ dp
  wei : d.weight ≤ wt
  sho : d.intsShort B = true
  vis : d.showable = true
mutual
theorem short_mono {A B : Nat} (h : A ≤ B) : ∀ {d : D}, d.intsShort A = true → d.intsShort B = true
  | .none, _ => rfl
  | .bool _, _ => rfl
  | .str _, _ => rfl
  | .dict _, _ => rfl
  | .int i, z => by
    have z : decide ((PyData.shown (.int i)).length ≤ A) = true := z
    exact decide_eq_true (Nat.le_trans (of_decide_eq_true z) h)
  | .list xs, z => by exact shorts_mono h (ds := xs) z
  | .tuple xs, z => by exact shorts_mono h (ds := xs) z
theorem shorts_mono {A B : Nat} (h : A ≤ B) : ∀ {ds : List D}, PyData.intsShortAll A ds = true → PyData.intsShortAll B ds = true
  | [], _ => rfl
  | d :: ds, z => by
    have z : (d.intsShort A && PyData.intsShortAll A ds) = true := z
    rw [Bool.and_eq_true] at z
    show (d.intsShort B && PyData.intsShortAll B ds) = true
    rw [short_mono h z.1, shorts_mono h z.2]; rfl
end
theorem Sm.sb {B dp wt : Nat} {d : D} (h : Sm dp wt d) (hB : 13 ≤ B) : Sb B dp wt d := ⟨h.lay, h.dep, h.wei, short_mono hB h.sho, h.vis⟩
theorem Sb.mono {B a b c e : Nat} {d : D} (h : Sb B a b d) (h1 : a ≤ c) (h2 : b ≤ e) : Sb B c e d := ⟨h.lay, Nat.le_trans h.dep h1, Nat.le_trans h.wei h2, h.sho, h.vis⟩
theorem sb_all {B dp wt : Nat} : ∀ {ds : List D}, (∀ d ∈ ds, Sb B dp wt d) → PyData.canLayAll0 ds = true ∧ PyData.depthAll ds ≤ dp ∧ PyData.weightAll ds ≤ ds.length * (wt + 1) ∧ PyData.intsShortAll B ds = true ∧ PyData.showableAll ds = true
  | [], _ => ⟨rfl, Nat.zero_le _, Nat.zero_le _, rfl, rfl⟩
  | d :: ds, h => by
    obtain ⟨a, b, c, e, v⟩ := sb_all fun x hx => h x (List.mem_cons_of_mem _ hx)
    have k := h d List.mem_cons_self
    refine ⟨?_, ?_, ?_, ?_, ?_⟩
    · show (PyData.canLay0 d && PyData.canLayAll0 ds) = true
      rw [k.lay, a]; rfl
    · show max (PyData.depth d) (PyData.depthAll ds) ≤ dp
      exact Nat.max_le.2 ⟨k.dep, b⟩
    · show PyData.weight d + 1 + PyData.weightAll ds ≤ (ds.length + 1) * (wt + 1)
      have := k.wei
      rw [Nat.add_mul]; omega
    · show (PyData.intsShort B d && PyData.intsShortAll B ds) = true
      rw [k.sho, e]; rfl
    · show (PyData.showable d && PyData.showableAll ds) = true
      rw [k.vis, v]; rfl
theorem sb_tuple {B dp wt n : Nat} {ds : List D} (h : ∀ d ∈ ds, Sb B dp wt d) (hn : ds.length ≤ n) : Sb B (dp + 1) (n * (wt + 1)) (.tuple ds) := by
  obtain ⟨a, b, c, e, v⟩ := sb_all h
  exact ⟨a, Nat.add_le_add_right b 1, Nat.le_trans c (Nat.mul_le_mul_right _ hn), e, v⟩
theorem sb_list {B dp wt n : Nat} {ds : List D} (h : ∀ d ∈ ds, Sb B dp wt d) (hn : ds.length ≤ n) : Sb B (dp + 1) (n * (wt + 1)) (.list ds) := by
  obtain ⟨a, b, c, e, v⟩ := sb_all h
  exact ⟨a, Nat.add_le_add_right b 1, Nat.le_trans c (Nat.mul_le_mul_right _ hn), e, v⟩
theorem Sb.shaped {B dp wt : Nat} {d : D} (h : Sb B dp wt d) (hd : dp ≤ 64) : SeqAt.shaped d = true := by
  show (d.canLay0 && decide (d.depth ≤ 64)) = true
  rw [h.lay, decide_eq_true (Nat.le_trans h.dep hd)]; rfl
theorem Sb.repr {B dp wt : Nat} {d : D} (h : Sb B dp wt d) (hd : dp ≤ 60) (hB : 8 ≤ B) (hw : (B + 2) * wt + B ≤ 16777216) : reprOk d := by
  refine ⟨h.vis, PyData.hasDict_of_canLay d h.lay, Nat.le_trans h.dep hd, ?_⟩
  have := PyData.shown_le B hB d (PyData.leavesShort_of_canLay0 B d h.lay h.sho)
  have l : (B + 2) * d.weight ≤ (B + 2) * wt := Nat.mul_le_mul_left _ h.wei
  rw [sizeLine_eq]
  omega
/-- a number of at most n bits: 2 ^ n ≤ 10 ^ k -/
theorem sb_int {i : Int} {n k : Nat} (hk : 0 < k) (h : i.natAbs < 2 ^ n) (hn : n ≤ 1900) (hd : 2 ^ n ≤ 10 ^ k) : Sb (k + 1) 0 n (.int i) := by
  have e : (PyData.shown (.int i)).length ≤ k + 1 := by
    have := int_text_length_le10 (k := k) hk (show i.natAbs < 10 ^ k by omega)
    show (Str.ofString (toString i)).length ≤ k + 1
    rw [PySem.ofString_length]; exact this
  refine ⟨rfl, Nat.le_refl _, ?_, decide_eq_true e, decide_eq_true ?_⟩
  · show (if i == 0 then 0 else i.natAbs.log2 + 1) ≤ n
    split
    · omega
    · rename_i z
      have z : i ≠ 0 := by simpa using z
      have : i.natAbs.log2 < n := (Nat.log2_lt (by omega)).2 h
      omega
  · by_cases z : i.natAbs = 0
    · rw [z]; decide
    · have : i.natAbs.log2 < n := (Nat.log2_lt z).2 h
      omega
theorem sb_encR {q : Rat} {n k : Nat} (hk : 0 < k) (h : Bq n q) (hn : n ≤ 1900) (hd : 2 ^ n ≤ 10 ^ k) : Sb (k + 1) 1 (2 * (n + 1)) (encR q) := by
  refine sb_tuple (fun d hx => ?_) (by simp)
  simp only [List.mem_cons, List.not_mem_nil, or_false] at hx
  rcases hx with rfl | rfl
  · exact sb_int hk h.n hn hd
  · exact sb_int hk (by rw [Int.natAbs_natCast]; exact h.d) hn hd
theorem sb_str {B : Nat} {x : Str} {n : Nat} (h : PyData.strOk x = true) (hl : x.cps.size ≤ n) : Sb B 0 n (.str x) := ⟨h, Nat.le_refl _, hl, rfl, rfl⟩
theorem sb_none {B : Nat} : Sb B 0 0 .none := ⟨rfl, Nat.le_refl _, Nat.le_refl _, rfl, rfl⟩
theorem sb_bool {B : Nat} {b : Bool} : Sb B 0 0 (.bool b) := ⟨rfl, Nat.le_refl _, Nat.le_refl _, rfl, rfl⟩
theorem sb_told {B dp wt : Nat} {d : D} (h : Sb B dp wt d) (hw : 10 ≤ wt) : Sb B (dp + 1) (2 * (wt + 1)) (.tuple [.str "told", d]) := by
  refine sb_tuple (fun x hx => ?_) (by simp)
  simp at hx
  rcases hx with rfl | rfl
  · exact (sb_str (n := 10) (by decide +kernel) (by decide +kernel)).mono (by omega) hw
  · exact h
end BB
set_option Elab.async false
set_option linter.all false
set_option maxRecDepth 100000
set_option autoImplicit false
set_option maxHeartbeats 2000000
/-! k59 -/
namespace BB
open PySem PySem.Spec PyProof.Rows L2
local macro_rules | `(tactic| simp_arith [$as,*]) => `(tactic| try simp [$as,*, -e_wbind, -e_wk, -e_wb2, -e_wb1, -e_wtest, -e_wand, -e_wor, -e_wnot, -e_wandV, -e_worV, -e_wnotV, -e_wif, -e_wchain, -e_wop, -e_witems, -e_sseq, -e_slift, -e_sdrop, -e_sret, -e_sif, -e_stry, -e_sapp, -e_sext, -e_runB, -e_sasg, -e_sasgF, -e_sasgT, -e_sfor, -e_wlst, -e_warg, -e_wnil, -e_wcons, -e_wnilC, -e_wconsC, -e_wtup, -e_wlis, -e_wlc, -e_wcall, -e_wsl, -e_wTupRg, -e_wLstRg, -e_wsel, ↓k_wbind, ↓k_wk, ↓k_wb2, ↓k_wb1, ↓k_wtest, ↓k_wand, ↓k_wor, ↓k_wnot, ↓k_wandV, ↓k_worV, ↓k_wnotV, ↓k_wif, ↓k_wchain, ↓k_wop, ↓k_witems, ↓k_sseq, ↓k_slift, ↓k_sdrop, ↓k_sret, ↓k_sif, ↓k_stry, ↓k_sapp, ↓k_sext, ↓k_wlst, ↓k_warg, ↓k_wnil, ↓k_wcons, ↓k_wnilC, ↓k_wconsC, ↓k_wtup, ↓k_wlis, ↓k_wlc, ↓k_wcall, ↓k_wsl, ↓k_wTupRg, ↓k_wLstRg, ↓k_wsel, ↓k_wrep, ↓k_wcat, ↓k_wlc2, ↓k_spop, ↓k_spopAt, ↓k_sdone, ↓k_wdget, ↓k_wdgetX, ↓k_sdput, ↓k_wdin, ↓k_wlenD, ↓k_wdc, ↓k_sasgD, ↓k_wsortD, ↓k_sdnew, ↓k_windex, ↓k_sset2, ↓k_slock, ↓k_wlock, ↓k_wkeysL, ↓k_wdinL, ↓k_sasg, ↓k_sasgF, ↓k_sasgT, ↓k_sfor, ↓k_runB, sizeLine_eq])
local macro_rules | `(tactic| simp_arith) => `(tactic| try simp [-e_wbind, -e_wk, -e_wb2, -e_wb1, -e_wtest, -e_wand, -e_wor, -e_wnot, -e_wandV, -e_worV, -e_wnotV, -e_wif, -e_wchain, -e_wop, -e_witems, -e_sseq, -e_slift, -e_sdrop, -e_sret, -e_sif, -e_stry, -e_sapp, -e_sext, -e_runB, -e_sasg, -e_sasgF, -e_sasgT, -e_sfor, -e_wlst, -e_warg, -e_wnil, -e_wcons, -e_wnilC, -e_wconsC, -e_wtup, -e_wlis, -e_wlc, -e_wcall, -e_wsl, -e_wTupRg, -e_wLstRg, -e_wsel, ↓k_wbind, ↓k_wk, ↓k_wb2, ↓k_wb1, ↓k_wtest, ↓k_wand, ↓k_wor, ↓k_wnot, ↓k_wandV, ↓k_worV, ↓k_wnotV, ↓k_wif, ↓k_wchain, ↓k_wop, ↓k_witems, ↓k_sseq, ↓k_slift, ↓k_sdrop, ↓k_sret, ↓k_sif, ↓k_stry, ↓k_sapp, ↓k_sext, ↓k_wlst, ↓k_warg, ↓k_wnil, ↓k_wcons, ↓k_wnilC, ↓k_wconsC, ↓k_wtup, ↓k_wlis, ↓k_wlc, ↓k_wcall, ↓k_wsl, ↓k_wTupRg, ↓k_wLstRg, ↓k_wsel, ↓k_wrep, ↓k_wcat, ↓k_wlc2, ↓k_spop, ↓k_spopAt, ↓k_sdone, ↓k_wdget, ↓k_wdgetX, ↓k_sdput, ↓k_wdin, ↓k_wlenD, ↓k_wdc, ↓k_sasgD, ↓k_wsortD, ↓k_sdnew, ↓k_windex, ↓k_sset2, ↓k_slock, ↓k_wlock, ↓k_wkeysL, ↓k_wdinL, ↓k_sasg, ↓k_sasgF, ↓k_sasgT, ↓k_sfor, ↓k_runB, sizeLine_eq])
/-! weights of sets -/
def wv (ws : List Int) (w : Nat) : Int := ws.getD w 0
def sumN (n : Nat) (f : Nat → Int) : Int := ((List.range n).map f).sum
theorem sumN_succ {n : Nat} {f : Nat → Int} : sumN (n + 1) f = sumN n f + f n := by
  unfold sumN
  rw [List.range_succ, List.map_append, List.sum_append]; simp
theorem sumN_add {f g : Nat → Int} : ∀ {n : Nat}, sumN n (fun w => f w + g w) = sumN n f + sumN n g
  | 0 => rfl
  | n + 1 => by rw [sumN_succ, sumN_succ, sumN_succ, sumN_add]; omega
theorem sumN_congr {f g : Nat → Int} : ∀ {n : Nat}, (∀ w, w < n → f w = g w) → sumN n f = sumN n g
  | 0, _ => rfl
  | n + 1, h => by rw [sumN_succ, sumN_succ, sumN_congr fun w hw => h w (by omega), h n (by omega)]
theorem sumN_zero : ∀ {n : Nat}, sumN n (fun _ => 0) = 0
  | 0 => rfl
  | n + 1 => by rw [sumN_succ, sumN_zero]; rfl
theorem sumN_le {f g : Nat → Int} : ∀ {n : Nat}, (∀ w, w < n → f w ≤ g w) → sumN n f ≤ sumN n g
  | 0, _ => Int.le_refl _
  | n + 1, h => by
    rw [sumN_succ, sumN_succ]
    have := sumN_le (n := n) fun w hw => h w (Nat.lt_succ_of_lt hw)
    have := h n (by omega)
    omega
theorem sumN_const {c : Int} : ∀ {n : Nat}, sumN n (fun _ => c) = n * c
  | 0 => by simp [sumN]
  | n + 1 => by rw [sumN_succ, sumN_const]; rw [Int.natCast_add, Int.add_mul]; simp
theorem sumN_pos {f : Nat → Int} : ∀ {n : Nat}, (∀ w, w < n → 0 ≤ f w) → ∀ k, k < n → f k ≤ sumN n f
  | 0, _, k, hk => absurd hk (Nat.not_lt_zero _)
  | n + 1, h, k, hk => by
    rw [sumN_succ]
    have h0 : (0 : Int) ≤ sumN n f := by
      have := sumN_le (n := n) (f := fun _ => 0) (g := f) fun w hw => h w (by omega)
      rwa [sumN_zero] at this
    by_cases e : k = n
    · subst e; omega
    · have := sumN_pos (n := n) (fun w hw => h w (Nat.lt_succ_of_lt hw)) k (by omega)
      have := h n (by omega)
      omega
theorem sumN_filter {p : Nat → Bool} {f : Nat → Int} : ∀ {n : Nat}, (((List.range n).filter p).map f).sum = sumN n fun w => if p w = true then f w else 0
  | 0 => rfl
  | n + 1 => by
    rw [sumN_succ, List.range_succ, List.filter_append, List.map_append, List.sum_append, sumN_filter]
    congr 1
    by_cases h : p n = true
    · simp [h]
    · simp [h]
/-- the weight of a set -/
def wsum (ws : List Int) (one : Int) : Int := sumN ws.length fun w => if ib one w = true then wv ws w else 0
structure Wts (m : Nat) (ws : List Int) : Prop where
  m1 : 1 ≤ m
  m2 : m ≤ 32
  len : ws.length = m
  rg : ∀ x ∈ ws, 0 ≤ x ∧ x ≤ 1000000
  nz : ∃ x ∈ ws, x ≠ 0
theorem wv_rg {ws : List Int} (rg : ∀ x ∈ ws, 0 ≤ x ∧ x ≤ 1000000) (w : Nat) : 0 ≤ wv ws w ∧ wv ws w ≤ 1000000 := by
  unfold wv
  rw [List.getD_eq_getElem?_getD]
  cases e : ws[w]? with
  | none => simp
  | some x => exact rg x (List.mem_of_getElem? e)
theorem wsum_rg {m : Nat} {ws : List Int} (h : Wts m ws) (one : Int) : 0 ≤ wsum ws one ∧ wsum ws one ≤ 32000000 := by
  unfold wsum
  refine ⟨?_, ?_⟩
  · have := sumN_le (n := ws.length) (f := fun _ => 0) (g := fun w => if ib one w = true then wv ws w else 0) fun w hw => by
      have := wv_rg h.rg w
      show 0 ≤ if ib one w = true then wv ws w else 0
      split <;> omega
    rwa [sumN_zero] at this
  · have := sumN_le (n := ws.length) (g := fun _ => 1000000) (f := fun w => if ib one w = true then wv ws w else 0) fun w hw => by
      have := wv_rg h.rg w
      show (if ib one w = true then wv ws w else 0) ≤ 1000000
      split <;> omega
    rw [sumN_const] at this
    have l := h.len
    have := h.m2
    omega
theorem wsum_sub {m : Nat} {ws : List Int} (h : Wts m ws) {x y : Int} (s : sub x y) : wsum ws x ≤ wsum ws y := by
  unfold wsum
  refine sumN_le fun w hw => ?_
  have := wv_rg h.rg w
  by_cases q : ib x w = true
  · rw [if_pos q, if_pos (s w q)]; omega
  · rw [if_neg q]; split <;> omega
theorem wsum_split {ws : List Int} {x y z : Int} (h : ∀ w, w < ws.length → (ib z w = (ib x w || ib y w)) ∧ ¬ (ib x w = true ∧ ib y w = true)) : wsum ws z = wsum ws x + wsum ws y := by
  unfold wsum
  rw [← sumN_add]
  refine sumN_congr fun w hw => ?_
  obtain ⟨h1, h2⟩ := h w hw
  rw [h1]
  cases q1 : ib x w <;> cases q2 : ib y w <;> simp [q1, q2] at h2 ⊢
theorem wsum_ext {ws : List Int} {x y : Int} (h : ∀ w, w < ws.length → ib x w = ib y w) : wsum ws x = wsum ws y := by
  unfold wsum
  exact sumN_congr fun w hw => by rw [h w hw]
theorem wsum_all {ws : List Int} : wsum ws (2 ^ ws.length - 1) = ws.sum := by
  have e : ws = (List.range ws.length).map (wv ws) := by
    refine List.ext_getElem? fun j => ?_
    rw [List.getElem?_map]
    by_cases l : j < ws.length
    · simp [l, wv]
    · simp [l]
  have : ws.sum = sumN ws.length (wv ws) := by unfold sumN; rw [← e]
  rw [this]
  unfold wsum
  refine sumN_congr fun w hw => ?_
  rw [ib_full, decide_eq_true hw, if_pos rfl]
theorem Wts.pos {m : Nat} {ws : List Int} (h : Wts m ws) : 0 < wsum ws (2 ^ m - 1) := by
  obtain ⟨x, hx, nz⟩ := h.nz
  obtain ⟨k, hk, e⟩ := List.mem_iff_getElem.1 hx
  have hv : wv ws k = x := by unfold wv; rw [List.getD_eq_getElem?_getD, List.getElem?_eq_getElem hk, e]; rfl
  have l := sumN_pos (n := ws.length) (f := fun w => if ib (2 ^ m - 1) w = true then wv ws w else 0) (fun w hw => by
    have := wv_rg h.rg w
    show 0 ≤ if ib (2 ^ m - 1) w = true then wv ws w else 0
    split <;> omega) k hk
  have l2 : (if ib (2 ^ m - 1) k = true then wv ws k else 0) ≤ wsum ws (2 ^ m - 1) := l
  rw [ib_full, decide_eq_true (by have := h.len; omega), if_pos rfl, hv] at l2
  have := h.rg x hx
  omega
/-- the blocks' weights together -/
theorem wsum_blocks {m : Nat} {ws : List Int} (hl : ws.length = m) (one : Int) : ∀ {bs : List Int} {u : Int}, bs.Pairwise (fun x y => ∀ i, ib x i = true → ib y i = true → False) → (∀ i, i < m → (ib u i = true ↔ ∃ x ∈ bs, ib x i = true)) →
    (bs.map fun x => wsum ws (Builtin.bitAnd x one)).sum = wsum ws (Builtin.bitAnd u one)
  | [], u, _, hu => by
    have : wsum ws (Builtin.bitAnd u one) = wsum ws 0 := wsum_ext fun w hw => by
      rw [ib_and, ib_0]
      cases q : ib u w with
      | false => rfl
      | true => obtain ⟨x, hx, _⟩ := (hu w (by omega)).1 q; cases hx
    rw [this]
    show (0 : Int) = wsum ws 0
    unfold wsum
    rw [show (fun w => if ib 0 w = true then wv ws w else 0) = fun _ => (0 : Int) from funext fun w => by rw [ib_0]; rfl, sumN_zero]
  | x :: bs, u, pw, hu => by
    obtain ⟨p1, p2⟩ := List.pairwise_cons.1 pw
    rw [List.map_cons, List.sum_cons]
    have ih := wsum_blocks (u := Builtin.bitAnd u (Builtin.bitNot x)) hl one p2 fun i hi => by
      rw [ib_and, ib_not, Bool.and_eq_true, Bool.not_eq_true', hu i hi]
      constructor
      · rintro ⟨⟨y, hy, q⟩, n⟩
        rcases List.mem_cons.1 hy with rfl | hy
        · rw [q] at n; cases n
        · exact ⟨y, hy, q⟩
      · rintro ⟨y, hy, q⟩
        refine ⟨⟨y, List.mem_cons_of_mem _ hy, q⟩, ?_⟩
        cases z : ib x i with
        | false => rfl
        | true => exact (p1 y hy i z q).elim
    rw [ih]
    refine (wsum_split fun w hw => ?_).symm
    rw [ib_and, ib_and, ib_and, ib_and, ib_not]
    have := hu w (by omega)
    have h2 : ib x w = true → ib u w = true := fun q => this.2 ⟨x, List.mem_cons_self, q⟩
    cases q1 : ib x w <;> cases q2 : ib u w <;> cases ib one w <;> simp [q1, q2] at h2 ⊢
theorem wsum_total {m : Nat} {ws bs : List Int} (hl : ws.length = m) (hb : Blk m bs) (one : Int) : (bs.map fun x => wsum ws (Builtin.bitAnd x one)).sum = wsum ws one := by
  rw [wsum_blocks (u := 2 ^ m - 1) hl one hb.pw fun i hi => ?_]
  · refine wsum_ext fun w hw => ?_
    rw [ib_and, ib_full, decide_eq_true (by omega), Bool.true_and]
  · rw [ib_full, decide_eq_true hi]
    exact ⟨fun _ => hb.un i hi, fun _ => rfl⟩
/-- the chance -/
def chq (ws : List Int) (one other : Int) : Rat := qt (wsum ws (Builtin.bitAnd one other)) (wsum ws other)
theorem lt26 {x : Int} (h : 0 ≤ x ∧ x ≤ 32000000) : x.natAbs < 2 ^ 26 := by
  have : (2 : Nat) ^ 26 = 67108864 := by decide
  omega
theorem pr26 {m : Nat} {ws : List Int} (h : Wts m ws) {x y : Int} (hy : wsum ws y ≠ 0) : Pr 26 (wsum ws x) (wsum ws y) := by
  have a := wsum_rg h x
  have b := wsum_rg h y
  exact ⟨by omega, lt26 a, lt26 b⟩
def optR : Option Rat → D
  | none => .none
  | some q => encR q
def chO (ws : List Int) (one other : Int) : Option Rat := if wsum ws other = 0 then none else some (chq ws one other)
theorem wsum_filter {ws : List Int} {one : Int} : (((List.range ws.length).filter (ib one)).map (wv ws)).sum = wsum ws one := sumN_filter
theorem atW {ws : List Int} {w : Nat} (h : w < ws.length) : atI (ws.map PyData.int) (w : Int) = some (.int (wv ws w)) := by
  refine atI_nat ?_
  unfold wv
  rw [List.getElem?_map, List.getElem?_eq_getElem h, List.getD_eq_getElem?_getD, List.getElem?_eq_getElem h]; rfl
/-- what is raised -/
def chkW (m : Int) (ws : List Int) : Except Er D := (checkMany m).bind fun _ => if (ws.length : Int) = m ∧ (∀ x ∈ ws, 0 ≤ x ∧ x ≤ 1000000) ∧ ∃ x ∈ ws, x ≠ 0 then .ok .none else .error .na
theorem chkW_ok {m : Int} {ws : List Int} {y : D} (h : chkW m ws = .ok y) : 0 ≤ m ∧ Wts m.toNat ws ∧ y = .none := by
  unfold chkW at h
  cases e : checkMany m with
  | error z => rw [e] at h; cases h
  | ok z =>
    rw [e] at h
    have h : (if (ws.length : Int) = m ∧ (∀ x ∈ ws, 0 ≤ x ∧ x ≤ 1000000) ∧ ∃ x ∈ ws, x ≠ 0 then Except.ok PyData.none else Except.error Er.na) = Except.ok y := h
    obtain ⟨a, b, _⟩ := checkMany_ok e
    split at h
    · rename_i c
      cases h
      exact ⟨by omega, ⟨by omega, by omega, by omega, c.2.1, c.2.2⟩, rfl⟩
    · cases h
theorem Wts.is {m : Nat} {ws : List Int} (h : Wts m ws) : chkW (m : Int) ws = .ok .none := by
  unfold chkW
  rw [checkMany_is (by have := h.m1; have := h.m2; omega)]
  show (if (ws.length : Int) = m ∧ (∀ x ∈ ws, 0 ≤ x ∧ x ≤ 1000000) ∧ ∃ x ∈ ws, x ≠ 0 then _ else _) = _
  rw [if_pos ⟨by rw [h.len], h.rg, h.nz⟩]
theorem chkW_no {m : Int} {ws : List Int} (hm : 1 ≤ m ∧ m ≤ 32) (h : ¬ ((ws.length : Int) = m ∧ (∀ x ∈ ws, 0 ≤ x ∧ x ≤ 1000000) ∧ ∃ x ∈ ws, x ≠ 0)) : chkW m ws = .error .na := by
  unfold chkW
  rw [checkMany_is hm]
  show (if (ws.length : Int) = m ∧ (∀ x ∈ ws, 0 ≤ x ∧ x ≤ 1000000) ∧ ∃ x ∈ ws, x ≠ 0 then _ else _) = _
  rw [if_neg h]
end BB
set_option Elab.async false
set_option linter.all false
set_option maxRecDepth 100000
set_option autoImplicit false
set_option maxHeartbeats 2000000
/-! k59 -/
namespace BB
open PySem PySem.Spec PyProof.Rows L2
local macro_rules | `(tactic| simp_arith [$as,*]) => `(tactic| try simp [$as,*, -e_wbind, -e_wk, -e_wb2, -e_wb1, -e_wtest, -e_wand, -e_wor, -e_wnot, -e_wandV, -e_worV, -e_wnotV, -e_wif, -e_wchain, -e_wop, -e_witems, -e_sseq, -e_slift, -e_sdrop, -e_sret, -e_sif, -e_stry, -e_sapp, -e_sext, -e_runB, -e_sasg, -e_sasgF, -e_sasgT, -e_sfor, -e_wlst, -e_warg, -e_wnil, -e_wcons, -e_wnilC, -e_wconsC, -e_wtup, -e_wlis, -e_wlc, -e_wcall, -e_wsl, -e_wTupRg, -e_wLstRg, -e_wsel, ↓k_wbind, ↓k_wk, ↓k_wb2, ↓k_wb1, ↓k_wtest, ↓k_wand, ↓k_wor, ↓k_wnot, ↓k_wandV, ↓k_worV, ↓k_wnotV, ↓k_wif, ↓k_wchain, ↓k_wop, ↓k_witems, ↓k_sseq, ↓k_slift, ↓k_sdrop, ↓k_sret, ↓k_sif, ↓k_stry, ↓k_sapp, ↓k_sext, ↓k_wlst, ↓k_warg, ↓k_wnil, ↓k_wcons, ↓k_wnilC, ↓k_wconsC, ↓k_wtup, ↓k_wlis, ↓k_wlc, ↓k_wcall, ↓k_wsl, ↓k_wTupRg, ↓k_wLstRg, ↓k_wsel, ↓k_wrep, ↓k_wcat, ↓k_wlc2, ↓k_spop, ↓k_spopAt, ↓k_sdone, ↓k_wdget, ↓k_wdgetX, ↓k_sdput, ↓k_wdin, ↓k_wlenD, ↓k_wdc, ↓k_sasgD, ↓k_wsortD, ↓k_sdnew, ↓k_windex, ↓k_sset2, ↓k_slock, ↓k_wlock, ↓k_wkeysL, ↓k_wdinL, ↓k_sasg, ↓k_sasgF, ↓k_sasgT, ↓k_sfor, ↓k_runB, sizeLine_eq])
local macro_rules | `(tactic| simp_arith) => `(tactic| try simp [-e_wbind, -e_wk, -e_wb2, -e_wb1, -e_wtest, -e_wand, -e_wor, -e_wnot, -e_wandV, -e_worV, -e_wnotV, -e_wif, -e_wchain, -e_wop, -e_witems, -e_sseq, -e_slift, -e_sdrop, -e_sret, -e_sif, -e_stry, -e_sapp, -e_sext, -e_runB, -e_sasg, -e_sasgF, -e_sasgT, -e_sfor, -e_wlst, -e_warg, -e_wnil, -e_wcons, -e_wnilC, -e_wconsC, -e_wtup, -e_wlis, -e_wlc, -e_wcall, -e_wsl, -e_wTupRg, -e_wLstRg, -e_wsel, ↓k_wbind, ↓k_wk, ↓k_wb2, ↓k_wb1, ↓k_wtest, ↓k_wand, ↓k_wor, ↓k_wnot, ↓k_wandV, ↓k_worV, ↓k_wnotV, ↓k_wif, ↓k_wchain, ↓k_wop, ↓k_witems, ↓k_sseq, ↓k_slift, ↓k_sdrop, ↓k_sret, ↓k_sif, ↓k_stry, ↓k_sapp, ↓k_sext, ↓k_wlst, ↓k_warg, ↓k_wnil, ↓k_wcons, ↓k_wnilC, ↓k_wconsC, ↓k_wtup, ↓k_wlis, ↓k_wlc, ↓k_wcall, ↓k_wsl, ↓k_wTupRg, ↓k_wLstRg, ↓k_wsel, ↓k_wrep, ↓k_wcat, ↓k_wlc2, ↓k_spop, ↓k_spopAt, ↓k_sdone, ↓k_wdget, ↓k_wdgetX, ↓k_sdput, ↓k_wdin, ↓k_wlenD, ↓k_wdc, ↓k_sasgD, ↓k_wsortD, ↓k_sdnew, ↓k_windex, ↓k_sset2, ↓k_slock, ↓k_wlock, ↓k_wkeysL, ↓k_wdinL, ↓k_sasg, ↓k_sasgF, ↓k_sasgT, ↓k_sfor, ↓k_runB, sizeLine_eq])
/-! weights of big steps (plain). -/
/-- a set of the accepted -/
def acc (ws : List Int) (other : Int) (one : Nat) : Bool := decide (Builtin.bitAnd (one : Int) (Builtin.bitNot other) = 0) && decide (wsum ws other < 2 * wsum ws (one : Int))
def accL (m : Nat) (ws : List Int) (other : Int) : List Nat := (List.range (2 ^ m)).filter (acc ws other)
theorem mem_accL {m : Nat} {ws : List Int} {other : Int} {one : Nat} : one ∈ accL m ws other ↔ one < 2 ^ m ∧ sub (one : Int) other ∧ wsum ws other < 2 * wsum ws (one : Int) := by
  unfold accL acc
  rw [List.mem_filter, List.mem_range, Bool.and_eq_true, decide_eq_true_iff, decide_eq_true_iff, diff_zero]
def partsB (m : Nat) (ws : List Int) (other : Int) : Bool := (accL m ws other).any fun a => (accL m ws other).any fun b => !decide (a &&& b ∈ accL m ws other)
theorem partsB_iff {m : Nat} {ws : List Int} {other : Int} : partsB m ws other = true ↔ ∃ a b, a ∈ accL m ws other ∧ b ∈ accL m ws other ∧ a &&& b ∉ accL m ws other := by
  unfold partsB
  rw [List.any_eq_true]
  constructor
  · rintro ⟨a, ha, h⟩
    rw [List.any_eq_true] at h
    obtain ⟨b, hb, h⟩ := h
    exact ⟨a, b, ha, hb, by simpa using h⟩
  · rintro ⟨a, b, ha, hb, h⟩
    refine ⟨a, ha, ?_⟩
    rw [List.any_eq_true]
    exact ⟨b, hb, by simpa using h⟩
def clos (ws : List Int) (other : Int) : Bool := decide (wsum ws other < 2 * sumN ws.length fun w => if (ib other w && decide (wsum ws other ≤ 2 * wv ws w)) = true then wv ws w else 0)
theorem wsum_le {ws : List Int} (rg : ∀ x ∈ ws, 0 ≤ x ∧ x ≤ 1000000) {x y : Int} (s : ∀ w, w < ws.length → ib x w = true → ib y w = true) : wsum ws x ≤ wsum ws y := by
  unfold wsum
  refine sumN_le fun w hw => ?_
  have := wv_rg rg w
  by_cases q : ib x w = true
  · rw [if_pos q, if_pos (s w hw q)]; omega
  · rw [if_neg q]; split <;> omega
theorem wsum_pow {ws : List Int} {v : Nat} (hv : v < ws.length) : wsum ws (2 ^ v) = wv ws v := by
  unfold wsum
  have : ∀ n, sumN n (fun w => if ib ((2 : Int) ^ v) w = true then wv ws w else 0) = if v < n then wv ws v else 0 := fun n => by
    induction n with
    | zero => rfl
    | succ n ih =>
      rw [sumN_succ, ih, ib_pow]
      by_cases c : v = n
      · subst c; simp
      · by_cases l : v < n
        · simp [c, l]; omega
        · simp [c, l]; omega
  rw [this, if_pos hv]
/-- a set without one of its worlds -/
theorem wsum_less {ws : List Int} {x : Int} {v : Nat} (hv : v < ws.length) (h : ib x v = true) : wsum ws x = wsum ws (Builtin.bitAnd x (Builtin.bitNot (2 ^ v))) + wv ws v := by
  rw [← wsum_pow hv]
  refine wsum_split fun w hw => ?_
  rw [ib_and, ib_not, ib_pow]
  by_cases c : v = w
  · subst c; simp [h]
  · simp [c]
theorem wsum_ge {ws : List Int} (rg : ∀ x ∈ ws, 0 ≤ x ∧ x ≤ 1000000) {x : Int} {v : Nat} (hv : v < ws.length) (h : ib x v = true) : wv ws v ≤ wsum ws x := by
  rw [wsum_less hv h]
  have := wsum_le rg (x := 0) (y := Builtin.bitAnd x (Builtin.bitNot (2 ^ v))) fun w _ z => by rw [ib_0] at z; cases z
  have e : wsum ws 0 = 0 := by
    unfold wsum
    rw [show (fun w => if ib 0 w = true then wv ws w else 0) = fun _ => (0 : Int) from funext fun w => by rw [ib_0]; rfl, sumN_zero]
  omega
theorem wsum_ge2 {ws : List Int} (rg : ∀ x ∈ ws, 0 ≤ x ∧ x ≤ 1000000) {x : Int} {v u : Nat} (hv : v < ws.length) (hu : u < ws.length) (ne : u ≠ v) (h : ib x v = true) (h2 : ib x u = true) : wv ws v + wv ws u ≤ wsum ws x := by
  rw [wsum_less hv h]
  have := wsum_ge rg (x := Builtin.bitAnd x (Builtin.bitNot (2 ^ v))) hu (by rw [ib_and, ib_not, ib_pow, h2, decide_eq_false (Ne.symm ne)]; rfl)
  omega
theorem wsum_zero {ws : List Int} : wsum ws 0 = 0 := by
  unfold wsum
  rw [show (fun w => if ib 0 w = true then wv ws w else 0) = fun _ => (0 : Int) from funext fun w => by rw [ib_0]; rfl, sumN_zero]
theorem wsum_pos {ws : List Int} (rg : ∀ x ∈ ws, 0 ≤ x ∧ x ≤ 1000000) {x : Int} (h : 0 < wsum ws x) : ∃ v, v < ws.length ∧ ib x v = true ∧ 0 < wv ws v := by
  refine Classical.byContradiction fun z => ?_
  have : wsum ws x ≤ 0 := by
    have := sumN_le (n := ws.length) (f := fun w => if ib x w = true then wv ws w else 0) (g := fun _ => 0) fun w hw => by
      have := wv_rg rg w
      show (if ib x w = true then wv ws w else 0) ≤ 0
      by_cases q : ib x w = true
      · rw [if_pos q]
        refine Classical.byContradiction fun y => z ⟨w, hw, q, by omega⟩
      · rw [if_neg q]; omega
    rwa [sumN_zero] at this
  omega
/-- one world of more than half the weight, or two of half of it each -/
def dict (ws : List Int) (other : Int) : Prop := (∃ v, v < ws.length ∧ ib other v = true ∧ wsum ws other < 2 * wv ws v) ∨ ∃ v u, v < ws.length ∧ u < ws.length ∧ u ≠ v ∧ ib other v = true ∧ ib other u = true ∧ 2 * wv ws v = wsum ws other ∧ 2 * wv ws u = wsum ws other
theorem clos_sum {ws : List Int} (rg : ∀ x ∈ ws, 0 ≤ x ∧ x ≤ 1000000) {other : Int} : (sumN ws.length fun w => if (ib other w && decide (wsum ws other ≤ 2 * wv ws w)) = true then wv ws w else 0) = wsum ws (setOf ws.length fun w => ib other w && decide (wsum ws other ≤ 2 * wv ws w)) := by
  unfold wsum
  refine sumN_congr fun w hw => ?_
  rw [ib_setOf, decide_eq_true hw, Bool.true_and]
theorem clos_iff {ws : List Int} (rg : ∀ x ∈ ws, 0 ≤ x ∧ x ≤ 1000000) {other : Int} (T : 0 < wsum ws other) : clos ws other = true ↔ dict ws other := by
  unfold clos
  rw [decide_eq_true_iff, clos_sum rg]
  have bit : ∀ w, ib (setOf ws.length fun w => ib other w && decide (wsum ws other ≤ 2 * wv ws w)) w = true ↔ w < ws.length ∧ ib other w = true ∧ wsum ws other ≤ 2 * wv ws w := fun w => by
    rw [ib_setOf, Bool.and_eq_true, Bool.and_eq_true, decide_eq_true_iff, decide_eq_true_iff]
  generalize hZ : (setOf ws.length fun w => ib other w && decide (wsum ws other ≤ 2 * wv ws w)) = Z at bit
  constructor
  · intro h
    obtain ⟨v, hv, iv, pv⟩ := wsum_pos rg (x := Z) (by omega)
    obtain ⟨_, ov, lv⟩ := (bit v).1 iv
    by_cases c : wsum ws other < 2 * wv ws v
    · exact .inl ⟨v, hv, ov, c⟩
    · rw [wsum_less hv iv] at h
      obtain ⟨u, hu, iu, pu⟩ := wsum_pos rg (x := Builtin.bitAnd Z (Builtin.bitNot (2 ^ v))) (by omega)
      rw [ib_and, ib_not, ib_pow, Bool.and_eq_true, Bool.not_eq_true', decide_eq_false_iff_not] at iu
      obtain ⟨_, ou, lu⟩ := (bit u).1 iu.1
      by_cases c2 : wsum ws other < 2 * wv ws u
      · exact .inl ⟨u, hu, ou, c2⟩
      · exact .inr ⟨v, u, hv, hu, Ne.symm iu.2, ov, ou, by omega, by omega⟩
  · rintro (⟨v, hv, ov, c⟩ | ⟨v, u, hv, hu, ne, ov, ou, e1, e2⟩)
    · have := wsum_ge rg (x := Z) hv ((bit v).2 ⟨hv, ov, by omega⟩)
      omega
    · have := wsum_ge2 rg (x := Z) hv hu ne ((bit v).2 ⟨hv, ov, by omega⟩) ((bit u).2 ⟨hu, ou, by omega⟩)
      omega
theorem meet_all {P : Nat → Prop} (hc : ∀ a b, P a → P b → P (a &&& b)) : ∀ (l : List Nat) (f : Nat), P f → (∀ x ∈ l, P x) → P (l.foldl (· &&& ·) f) ∧ ∀ i, (l.foldl (· &&& ·) f).testBit i = true → f.testBit i = true ∧ ∀ x ∈ l, x.testBit i = true
  | [], f, hf, _ => ⟨hf, fun i h => ⟨h, fun x hx => by cases hx⟩⟩
  | a :: l, f, hf, h => by
    obtain ⟨h1, h2⟩ := meet_all hc l (f &&& a) (hc _ _ hf (h a List.mem_cons_self)) fun x hx => h x (List.mem_cons_of_mem _ hx)
    refine ⟨h1, fun i hi => ?_⟩
    obtain ⟨h3, h4⟩ := h2 i hi
    rw [Nat.testBit_and, Bool.and_eq_true] at h3
    exact ⟨h3.1, fun x hx => by
      rcases List.mem_cons.1 hx with rfl | hx
      · exact h3.2
      · exact h4 x hx⟩
theorem sub_natBit {a : Nat} {x : Int} : sub (a : Int) x ↔ ∀ i, a.testBit i = true → ib x i = true := by
  unfold sub
  refine forall_congr' fun i => ?_
  rw [ib_nat]
theorem natOf {m : Nat} {x : Int} (h : 0 ≤ x ∧ x < 2 ^ m) : ((x.toNat : Nat) : Int) = x ∧ x.toNat < 2 ^ m := by
  rw [pow_cast] at h
  omega
theorem parts_iff {m : Nat} {ws : List Int} (hl : ws.length = m) (rg : ∀ x ∈ ws, 0 ≤ x ∧ x ≤ 1000000) {other : Int} (ho : 0 ≤ other ∧ other < 2 ^ m) : partsB m ws other = true ↔ 0 < wsum ws other ∧ clos ws other = false := by
  have T0 : 0 ≤ wsum ws other := by
    have := wsum_le rg (x := 0) (y := other) fun w _ z => by rw [ib_0] at z; cases z
    rw [wsum_zero] at this; exact this
  rw [partsB_iff]
  constructor
  · rintro ⟨a, b, ha, hb, hab⟩
    obtain ⟨la, sa, wa⟩ := mem_accL.1 ha
    obtain ⟨lb, sb, wb⟩ := mem_accL.1 hb
    have wle : wsum ws (a : Int) ≤ wsum ws other := wsum_le rg fun w _ h => sa w h
    have T : 0 < wsum ws other := by omega
    refine ⟨T, ?_⟩
    cases q : clos ws other with
    | false => rfl
    | true =>
      refine absurd (mem_accL.2 ⟨Nat.lt_of_le_of_lt Nat.and_le_left la, fun i hi => sa i ?_, ?_⟩) hab
      · rw [ib_nat] at hi ⊢
        rw [Nat.testBit_and, Bool.and_eq_true] at hi
        exact hi.1
      · have key : ∀ (c : Nat) (v : Nat), v < ws.length → ib other v = true → sub (c : Int) other → wsum ws other < 2 * wsum ws (c : Int) → wsum ws other ≤ 2 * wv ws v → c.testBit v = true := fun c v hv ov sc wc lv => by
          cases z : c.testBit v with
          | true => rfl
          | false =>
            have := wsum_le rg (x := (c : Int)) (y := Builtin.bitAnd other (Builtin.bitNot (2 ^ v))) fun w _ h => by
              rw [ib_and, ib_not, ib_pow, sc w h]
              rw [ib_nat] at h
              have : v ≠ w := fun e => by subst e; rw [z] at h; cases h
              rw [decide_eq_false this]; rfl
            have := wsum_less hv ov
            omega
        rcases (clos_iff rg T).1 q with ⟨v, hv, ov, lv⟩ | ⟨v, u, hv, hu, ne, ov, ou, e1, e2⟩
        · have := wsum_ge rg (x := ((a &&& b : Nat) : Int)) hv (by rw [ib_nat, Nat.testBit_and, key a v hv ov sa wa (by omega), key b v hv ov sb wb (by omega)]; rfl)
          omega
        · have := wsum_ge2 rg (x := ((a &&& b : Nat) : Int)) hv hu ne (by rw [ib_nat, Nat.testBit_and, key a v hv ov sa wa (by omega), key b v hv ov sb wb (by omega)]; rfl) (by rw [ib_nat, Nat.testBit_and, key a u hu ou sa wa (by omega), key b u hu ou sb wb (by omega)]; rfl)
          omega
  · rintro ⟨T, q⟩
    refine Classical.byContradiction fun z => ?_
    have cl : ∀ a b, a ∈ accL m ws other → b ∈ accL m ws other → a &&& b ∈ accL m ws other := fun a b ha hb => Classical.byContradiction fun y => z ⟨a, b, ha, hb, y⟩
    obtain ⟨e0, l0⟩ := natOf ho
    have o1 : other.toNat ∈ accL m ws other := mem_accL.2 ⟨l0, by rw [e0]; exact sub_rfl, by rw [e0]; omega⟩
    obtain ⟨hI, hall⟩ := meet_all (P := fun a => a ∈ accL m ws other) cl (accL m ws other) other.toNat o1 fun x hx => hx
    generalize (accL m ws other).foldl (· &&& ·) other.toNat = I at hI hall
    obtain ⟨lI, sI, wI⟩ := mem_accL.1 hI
    have nd : ¬ dict ws other := fun d => by rw [(clos_iff rg T).2 d] at q; cases q
    have half : ∀ v, v < ws.length → I.testBit v = true → 0 < wv ws v → 2 * wv ws v = wsum ws other := fun v hv iv pv => by
      have ov : ib other v = true := sI v (by rw [ib_nat]; exact iv)
      have le : ¬ wsum ws other < 2 * wv ws v := fun c => nd (.inl ⟨v, hv, ov, c⟩)
      refine Classical.byContradiction fun y => ?_
      have rr : 0 ≤ Builtin.bitAnd other (Builtin.bitNot (2 ^ v)) ∧ Builtin.bitAnd other (Builtin.bitNot (2 ^ v)) < 2 ^ m := and_range ho
      obtain ⟨e1, l1⟩ := natOf rr
      have wl := wsum_less hv ov
      have mem : (Builtin.bitAnd other (Builtin.bitNot (2 ^ v))).toNat ∈ accL m ws other := mem_accL.2 ⟨l1, by rw [e1]; exact and_sub_l, by rw [e1]; omega⟩
      have := (hall v iv).2 _ mem
      rw [← ib_nat, e1, ib_and, ib_not, ib_pow, decide_eq_true rfl, Bool.and_eq_true] at this
      cases this.2
    obtain ⟨v, hv, iv, pv⟩ := wsum_pos rg (x := (I : Int)) (by omega)
    rw [ib_nat] at iv
    have hv2 := half v hv iv pv
    have wl := wsum_less (x := (I : Int)) hv (by rw [ib_nat]; exact iv)
    obtain ⟨u, hu, iu, pu⟩ := wsum_pos rg (x := Builtin.bitAnd (I : Int) (Builtin.bitNot (2 ^ v))) (by omega)
    rw [ib_and, ib_not, ib_pow, Bool.and_eq_true, Bool.not_eq_true', decide_eq_false_iff_not, ib_nat] at iu
    have hu2 := half u hu iu.1 pu
    exact nd (.inr ⟨v, u, hv, hu, Ne.symm iu.2, sI v (by rw [ib_nat]; exact iv), sI u (by rw [ib_nat]; exact iu.1), hv2, hu2⟩)
end BB
set_option Elab.async false
set_option linter.all false
set_option maxRecDepth 100000
set_option autoImplicit false
set_option maxHeartbeats 2000000
/-! k59 -/
namespace BB
open PySem PySem.Spec PyProof.Rows L2
local macro_rules | `(tactic| simp_arith [$as,*]) => `(tactic| try simp [$as,*, -e_wbind, -e_wk, -e_wb2, -e_wb1, -e_wtest, -e_wand, -e_wor, -e_wnot, -e_wandV, -e_worV, -e_wnotV, -e_wif, -e_wchain, -e_wop, -e_witems, -e_sseq, -e_slift, -e_sdrop, -e_sret, -e_sif, -e_stry, -e_sapp, -e_sext, -e_runB, -e_sasg, -e_sasgF, -e_sasgT, -e_sfor, -e_wlst, -e_warg, -e_wnil, -e_wcons, -e_wnilC, -e_wconsC, -e_wtup, -e_wlis, -e_wlc, -e_wcall, -e_wsl, -e_wTupRg, -e_wLstRg, -e_wsel, ↓k_wbind, ↓k_wk, ↓k_wb2, ↓k_wb1, ↓k_wtest, ↓k_wand, ↓k_wor, ↓k_wnot, ↓k_wandV, ↓k_worV, ↓k_wnotV, ↓k_wif, ↓k_wchain, ↓k_wop, ↓k_witems, ↓k_sseq, ↓k_slift, ↓k_sdrop, ↓k_sret, ↓k_sif, ↓k_stry, ↓k_sapp, ↓k_sext, ↓k_wlst, ↓k_warg, ↓k_wnil, ↓k_wcons, ↓k_wnilC, ↓k_wconsC, ↓k_wtup, ↓k_wlis, ↓k_wlc, ↓k_wcall, ↓k_wsl, ↓k_wTupRg, ↓k_wLstRg, ↓k_wsel, ↓k_wrep, ↓k_wcat, ↓k_wlc2, ↓k_spop, ↓k_spopAt, ↓k_sdone, ↓k_wdget, ↓k_wdgetX, ↓k_sdput, ↓k_wdin, ↓k_wlenD, ↓k_wdc, ↓k_sasgD, ↓k_wsortD, ↓k_sdnew, ↓k_windex, ↓k_sset2, ↓k_slock, ↓k_wlock, ↓k_wkeysL, ↓k_wdinL, ↓k_sasg, ↓k_sasgF, ↓k_sasgT, ↓k_sfor, ↓k_runB, sizeLine_eq])
local macro_rules | `(tactic| simp_arith) => `(tactic| try simp [-e_wbind, -e_wk, -e_wb2, -e_wb1, -e_wtest, -e_wand, -e_wor, -e_wnot, -e_wandV, -e_worV, -e_wnotV, -e_wif, -e_wchain, -e_wop, -e_witems, -e_sseq, -e_slift, -e_sdrop, -e_sret, -e_sif, -e_stry, -e_sapp, -e_sext, -e_runB, -e_sasg, -e_sasgF, -e_sasgT, -e_sfor, -e_wlst, -e_warg, -e_wnil, -e_wcons, -e_wnilC, -e_wconsC, -e_wtup, -e_wlis, -e_wlc, -e_wcall, -e_wsl, -e_wTupRg, -e_wLstRg, -e_wsel, ↓k_wbind, ↓k_wk, ↓k_wb2, ↓k_wb1, ↓k_wtest, ↓k_wand, ↓k_wor, ↓k_wnot, ↓k_wandV, ↓k_worV, ↓k_wnotV, ↓k_wif, ↓k_wchain, ↓k_wop, ↓k_witems, ↓k_sseq, ↓k_slift, ↓k_sdrop, ↓k_sret, ↓k_sif, ↓k_stry, ↓k_sapp, ↓k_sext, ↓k_wlst, ↓k_warg, ↓k_wnil, ↓k_wcons, ↓k_wnilC, ↓k_wconsC, ↓k_wtup, ↓k_wlis, ↓k_wlc, ↓k_wcall, ↓k_wsl, ↓k_wTupRg, ↓k_wLstRg, ↓k_wsel, ↓k_wrep, ↓k_wcat, ↓k_wlc2, ↓k_spop, ↓k_spopAt, ↓k_sdone, ↓k_wdget, ↓k_wdgetX, ↓k_sdput, ↓k_wdin, ↓k_wlenD, ↓k_wdc, ↓k_sasgD, ↓k_wsortD, ↓k_sdnew, ↓k_windex, ↓k_sset2, ↓k_slock, ↓k_wlock, ↓k_wkeysL, ↓k_wdinL, ↓k_sasg, ↓k_sasgF, ↓k_sasgT, ↓k_sfor, ↓k_runB, sizeLine_eq])
/-! rows of weights in order (plain). -/
def stepB : Int → List Int → Bool
  | _, [] => true
  | t, a :: l => decide (t < a) && stepB (t + a) l
def lawStep (row : List Int) : Bool := (List.range row.length).all fun k => decide ((row.take k).sum < row.getD k 0)
def lawNear (row : List Int) : Bool := (List.range row.length).all fun k => decide ((row.take k).sum < row.getD k 0) || (decide (k = 1) && decide (row.getD 1 0 = row.getD 0 0))
theorem stepB_iff : ∀ {row : List Int} {t : Int}, stepB t row = true ↔ ∀ p a q, row = p ++ a :: q → t + p.sum < a
  | [], t => ⟨fun _ p a q e => by simp at e, fun _ => rfl⟩
  | a :: l, t => by
    show (decide (t < a) && stepB (t + a) l) = true ↔ _
    rw [Bool.and_eq_true, decide_eq_true_iff, stepB_iff]
    constructor
    · rintro ⟨h1, h2⟩ p b q e
      cases p with
      | nil =>
        rw [List.nil_append] at e
        cases e
        simpa using h1
      | cons c p =>
        rw [List.cons_append] at e
        cases e
        have := h2 p b q rfl
        rw [List.sum_cons]; omega
    · intro h
      refine ⟨by simpa using h [] a l rfl, fun p b q e => ?_⟩
      have := h (a :: p) b q (by rw [e]; rfl)
      rw [List.sum_cons] at this; omega
theorem split_at {row p q : List Int} {a : Int} (e : row = p ++ a :: q) : p.length < row.length ∧ row.take p.length = p ∧ row.getD p.length 0 = a := by
  subst e
  refine ⟨by simp, by simp, by simp⟩
theorem at_split {row : List Int} {k : Nat} (h : k < row.length) : row = row.take k ++ row.getD k 0 :: row.drop (k + 1) := by
  rw [List.getD_eq_getElem?_getD, List.getElem?_eq_getElem h]
  show row = row.take k ++ row[k] :: row.drop (k + 1)
  rw [← List.drop_eq_getElem_cons h, List.take_append_drop]
theorem lawStep_iff {row : List Int} : lawStep row = true ↔ ∀ p a q, row = p ++ a :: q → p.sum < a := by
  unfold lawStep
  rw [List.all_eq_true]
  constructor
  · intro h p a q e
    obtain ⟨h1, h2, h3⟩ := split_at e
    have := h p.length (List.mem_range.2 h1)
    rw [decide_eq_true_iff, h2, h3] at this
    exact this
  · intro h k hk
    rw [decide_eq_true_iff]
    exact h _ _ _ (at_split (List.mem_range.1 hk))
theorem law_step {row : List Int} : lawStep row = stepB 0 row := by
  have e : lawStep row = true ↔ stepB 0 row = true := by
    rw [lawStep_iff, stepB_iff]
    simp
  cases q : stepB 0 row with
  | true => exact e.2 q
  | false =>
    cases z : lawStep row with
    | true => rw [e.1 z] at q; cases q
    | false => rfl
theorem lawNear_iff {row : List Int} : lawNear row = true ↔ ∀ p a q, row = p ++ a :: q → p.sum < a ∨ p = [a] := by
  unfold lawNear
  rw [List.all_eq_true]
  constructor
  · intro h p a q e
    obtain ⟨h1, h2, h3⟩ := split_at e
    have := h p.length (List.mem_range.2 h1)
    rw [Bool.or_eq_true, Bool.and_eq_true, decide_eq_true_iff, decide_eq_true_iff, decide_eq_true_iff, h2, h3] at this
    rcases this with z | ⟨z, y⟩
    · exact .inl z
    · right
      match p, z with
      | [b], _ =>
        subst e
        simp at y
        rw [y]
  · intro h k hk
    rw [Bool.or_eq_true, Bool.and_eq_true, decide_eq_true_iff, decide_eq_true_iff, decide_eq_true_iff]
    have hk := List.mem_range.1 hk
    rcases h _ _ _ (at_split hk) with z | z
    · exact .inl z
    · have l := congrArg List.length z
      rw [List.length_take, List.length_singleton] at l
      have k1 : k = 1 := by omega
      subst k1
      refine .inr ⟨rfl, ?_⟩
      match row, hk with
      | b :: c :: _, _ => simp at z; simp [z]
structure RowOf (ws row : List Int) : Prop where
  perm : row.Perm (ws.filter fun x => decide (0 < x))
  ord : row.Pairwise (· ≤ ·)
theorem lift_perm {α β : Type} (f : α → β) {m n : List β} (h : m.Perm n) : ∀ l : List α, l.map f = n → ∃ l' : List α, l'.Perm l ∧ l'.map f = m := by
  induction h with
  | nil => intro l e; exact ⟨[], by rw [List.map_eq_nil_iff.1 e], rfl⟩
  | cons x _ ih =>
    intro l e
    match l, e with
    | a :: l, e =>
      rw [List.map_cons] at e
      injection e with e1 e2
      obtain ⟨l', p, q⟩ := ih l e2
      exact ⟨a :: l', p.cons a, by rw [List.map_cons, q, e1]⟩
  | swap x y l =>
    intro k e
    match k, e with
    | a :: b :: k, e =>
      rw [List.map_cons, List.map_cons] at e
      injection e with e1 e2
      injection e2 with e2 e3
      exact ⟨b :: a :: k, List.Perm.swap a b k, by rw [List.map_cons, List.map_cons, e1, e2, e3]⟩
  | trans _ _ ih1 ih2 =>
    intro l e
    obtain ⟨l', p, q⟩ := ih2 l e
    obtain ⟨l2, p2, q2⟩ := ih1 l' q
    exact ⟨l2, p2.trans p, q2⟩
theorem ws_map {ws : List Int} : (List.range ws.length).map (wv ws) = ws := by
  refine List.ext_getElem? fun j => ?_
  rw [List.getElem?_map]
  by_cases l : j < ws.length
  · simp [l, wv]
  · simp [l]
/-- the worlds in the order of the row -/
structure Wds (ws row : List Int) (vs : List Nat) : Prop where
  perm : vs.Perm ((List.range ws.length).filter fun w => decide (0 < wv ws w))
  map : vs.map (wv ws) = row
theorem RowOf.wds {ws row : List Int} (h : RowOf ws row) : ∃ vs, Wds ws row vs := by
  have e : ((List.range ws.length).filter fun w => decide (0 < wv ws w)).map (wv ws) = ws.filter fun x => decide (0 < x) := by
    have : ws.filter (fun x => decide (0 < x)) = ((List.range ws.length).map (wv ws)).filter fun x => decide (0 < x) := by rw [ws_map]
    rw [this, List.filter_map]; rfl
  obtain ⟨vs, p, q⟩ := lift_perm (wv ws) h.perm _ e
  exact ⟨vs, p, q⟩
theorem Wds.mem {ws row : List Int} {vs : List Nat} (h : Wds ws row vs) {w : Nat} : w ∈ vs ↔ w < ws.length ∧ 0 < wv ws w := by
  rw [h.perm.mem_iff, List.mem_filter, List.mem_range, decide_eq_true_iff]
theorem Wds.nodup {ws row : List Int} {vs : List Nat} (h : Wds ws row vs) : vs.Nodup := h.perm.nodup_iff.2 (List.Nodup.sublist List.filter_sublist List.nodup_range)
theorem sum_drop {α : Type} (f : α → Int) (p : α → Bool) : ∀ (l : List α), (∀ x ∈ l, p x = false → f x = 0) → (l.map f).sum = ((l.filter p).map f).sum
  | [], _ => rfl
  | x :: l, h => by
    have ih := sum_drop f p l fun y hy => h y (List.mem_cons_of_mem _ hy)
    cases q : p x with
    | true => rw [List.filter_cons_of_pos q, List.map_cons, List.map_cons, List.sum_cons, List.sum_cons, ih]
    | false => rw [List.filter_cons_of_neg (by rw [q]; decide), List.map_cons, List.sum_cons, h x List.mem_cons_self q, ih]; omega
theorem perm_sumI {l m : List Int} (h : l.Perm m) : l.sum = m.sum := by
  induction h with
  | nil => rfl
  | cons x _ ih => simp [ih]
  | swap x y l => simp; omega
  | trans _ _ a b => rw [a, b]
theorem Wds.sum {ws row : List Int} {vs : List Nat} (h : Wds ws row vs) (rg : ∀ x ∈ ws, 0 ≤ x ∧ x ≤ 1000000) (one : Int) : wsum ws one = ((vs.filter (ib one)).map (wv ws)).sum := by
  rw [← wsum_filter, perm_sumI ((h.perm.filter (ib one)).map (wv ws)), List.filter_filter]
  have e : ((List.range ws.length).filter fun a => ib one a && decide (0 < wv ws a)) = (((List.range ws.length).filter (ib one)).filter fun w => decide (0 < wv ws w)) := by
    rw [List.filter_filter]
    congr 1
    funext a
    rw [Bool.and_comm]
  rw [e]
  refine sum_drop _ _ _ fun w _ q => ?_
  have := wv_rg rg w
  have := of_decide_eq_false q
  omega
theorem sum_nn : ∀ {l : List Int}, (∀ x ∈ l, 0 ≤ x) → 0 ≤ l.sum
  | [], _ => by simp
  | x :: l, h => by
    have := sum_nn (l := l) fun y hy => h y (List.mem_cons_of_mem _ hy)
    have := h x List.mem_cons_self
    rw [List.sum_cons]; omega
theorem sum_filter_le {p : Nat → Bool} {f : Nat → Int} : ∀ {l : List Nat}, (∀ x ∈ l, 0 ≤ f x) → ((l.filter p).map f).sum ≤ (l.map f).sum
  | [], _ => by simp
  | x :: l, h => by
    have ih := sum_filter_le (p := p) (l := l) fun y hy => h y (List.mem_cons_of_mem _ hy)
    have := h x List.mem_cons_self
    cases q : p x with
    | true => rw [List.filter_cons_of_pos q, List.map_cons, List.map_cons, List.sum_cons, List.sum_cons]; omega
    | false => rw [List.filter_cons_of_neg (by rw [q]; decide), List.map_cons, List.sum_cons]; omega
theorem last_of {p : Nat → Bool} : ∀ {l : List Nat}, (∃ x ∈ l, p x = true) → ∃ a v b, l = a ++ v :: b ∧ p v = true ∧ ∀ x ∈ b, p x = false
  | [], h => by obtain ⟨x, hx, _⟩ := h; cases hx
  | y :: l, h => by
    by_cases c : ∃ x ∈ l, p x = true
    · obtain ⟨a, v, b, e, h1, h2⟩ := last_of c
      exact ⟨y :: a, v, b, by rw [e]; rfl, h1, h2⟩
    · obtain ⟨x, hx, px⟩ := h
      rcases List.mem_cons.1 hx with rfl | hx
      · refine ⟨[], x, l, rfl, px, fun z hz => ?_⟩
        cases q : p z with
        | false => rfl
        | true => exact absurd ⟨z, hz, q⟩ c
      · exact absurd ⟨x, hx, px⟩ c
theorem near_dict {ws row : List Int} (rg : ∀ x ∈ ws, 0 ≤ x ∧ x ≤ 1000000) (h : RowOf ws row) (hn : lawNear row = true) {other : Int} (T : 0 < wsum ws other) : dict ws other := by
  obtain ⟨vs, W⟩ := h.wds
  obtain ⟨v0, hv0, iv0, pv0⟩ := wsum_pos rg T
  obtain ⟨a, v, b, e, hv, hb⟩ := last_of (p := ib other) (l := vs) ⟨v0, W.mem.2 ⟨hv0, pv0⟩, iv0⟩
  have vm := W.mem.1 (show v ∈ vs by rw [e]; simp)
  have hs := W.sum rg other
  have eb : b.filter (ib other) = [] := by rw [List.filter_eq_nil_iff]; intro x hx; rw [hb x hx]; decide
  rw [e, List.filter_append, List.filter_cons_of_pos hv, eb, List.map_append, List.sum_append] at hs
  have nn : ∀ x ∈ a, 0 ≤ wv ws x := fun x _ => (wv_rg rg x).1
  have le := sum_filter_le (p := ib other) (f := wv ws) nn
  have er : row = a.map (wv ws) ++ wv ws v :: b.map (wv ws) := by rw [← W.map, e]; simp
  simp at hs
  rcases lawNear_iff.1 hn _ _ _ er with z | z
  · exact .inl ⟨v, vm.1, hv, by omega⟩
  · obtain ⟨u, rfl⟩ : ∃ u, a = [u] := by
      have la := congrArg List.length z
      rw [List.length_map, List.length_singleton] at la
      exact List.length_eq_one_iff.1 la
    · simp at z
      have um := W.mem.1 (show u ∈ vs by rw [e]; simp)
      have ne : u ≠ v := fun q => by
        have := W.nodup
        rw [e, q] at this
        simp at this
      cases q : ib other u with
      | false =>
        simp [q] at hs
        exact .inl ⟨v, vm.1, hv, by omega⟩
      | true =>
        simp [q] at hs
        exact .inr ⟨v, u, vm.1, um.1, ne, hv, q, by omega, by omega⟩
theorem ib_sum_set {n : Nat} {vs : List Nat} (w : Nat) : ib (setOf n fun w => decide (w ∈ vs)) w = (decide (w < n) && decide (w ∈ vs)) := ib_setOf
theorem dict_near {ws row : List Int} (rg : ∀ x ∈ ws, 0 ≤ x ∧ x ≤ 1000000) (h : RowOf ws row) (hd : ∀ other : Int, 0 ≤ other → other < 2 ^ ws.length → 0 < wsum ws other → dict ws other) : lawNear row = true := by
  obtain ⟨vs, W⟩ := h.wds
  rw [lawNear_iff]
  intro p x q er
  rw [← W.map] at er
  obtain ⟨a, l2, e, ea, e2⟩ := List.map_eq_append_iff.1 er
  obtain ⟨v, b, e3, ev, eb⟩ := List.map_eq_cons_iff.1 e2
  subst e3 ea ev
  have nd := W.nodup
  have vm := W.mem.1 (show v ∈ vs by rw [e]; simp)
  -- the set of the first worlds
  have bit : ∀ w, ib (setOf ws.length fun w => decide (w ∈ a ++ [v])) w = true ↔ w ∈ a ++ [v] := fun w => by
    rw [ib_sum_set, Bool.and_eq_true, decide_eq_true_iff, decide_eq_true_iff]
    refine ⟨fun z => z.2, fun z => ⟨?_, z⟩⟩
    refine (W.mem.1 (show w ∈ vs from ?_)).1
    rw [e]
    rcases List.mem_append.1 z with z | z
    · simp [z]
    · rw [List.mem_singleton] at z; simp [z]
  have rr := setOf_range (n := ws.length) (p := fun w => decide (w ∈ a ++ [v]))
  generalize (setOf ws.length fun w => decide (w ∈ a ++ [v])) = O at bit rr
  have hs := W.sum rg O
  have f1 : vs.filter (ib O) = a ++ [v] := by
    rw [e]
    have ee : a ++ v :: b = (a ++ [v]) ++ b := by simp
    rw [ee, List.filter_append]
    have n1 : (a ++ [v]).filter (ib O) = a ++ [v] := List.filter_eq_self.2 fun w hw => (bit w).2 hw
    have n2 : b.filter (ib O) = [] := by
      rw [List.filter_eq_nil_iff]
      intro w hw z
      have z := (bit w).1 z
      rw [e, ee] at nd
      exact (List.nodup_append.1 nd).2.2 w z w hw rfl
    rw [n1, n2, List.append_nil]
  rw [f1, List.map_append, List.sum_append] at hs
  simp at hs
  have nn : 0 ≤ (a.map (wv ws)).sum := sum_nn fun y hy => by
    obtain ⟨u, _, rfl⟩ := List.mem_map.1 hy
    exact (wv_rg rg u).1
  have top : ∀ u, ib O u = true → wv ws u ≤ wv ws v := fun u hu => by
    have z := (bit u).1 hu
    rcases List.mem_append.1 z with z | z
    · have od := h.ord
      rw [← W.map, e, List.map_append] at od
      exact (List.pairwise_append.1 od).2.2 _ (List.mem_map_of_mem z) _ (by simp)
    · rw [List.mem_singleton] at z; rw [z]; exact Int.le_refl _
  rcases hd O rr.1 rr.2 (by omega) with ⟨u, hu, ou, c⟩ | ⟨u, u2, hu, hu2, ne, ou, ou2, c1, c2⟩
  · have := top u ou
    exact .inl (by omega)
  · by_cases lt : (a.map (wv ws)).sum < wv ws v
    · exact .inl lt
    · right
      have t1 := top u ou
      have t2 := top u2 ou2
      -- all others weigh nothing
      have only : ∀ w, w ∈ a ++ [v] → w = u ∨ w = u2 := fun w hw => Classical.byContradiction fun z => by
        have z1 : w ≠ u := fun q => z (.inl q)
        have z2 : w ≠ u2 := fun q => z (.inr q)
        have ow := (bit w).2 hw
        have wm : w < ws.length ∧ 0 < wv ws w := W.mem.1 (by
          rw [e]
          rcases List.mem_append.1 hw with z | z
          · simp [z]
          · rw [List.mem_singleton] at z; simp [z])
        have l1 := wsum_less hu ou
        have := wsum_ge2 rg (x := Builtin.bitAnd O (Builtin.bitNot (2 ^ u))) hu2 wm.1 z2 (by rw [ib_and, ib_not, ib_pow, ou2, decide_eq_false (Ne.symm ne)]; rfl) (by rw [ib_and, ib_not, ib_pow, ow, decide_eq_false (Ne.symm z1)]; rfl)
        omega
      have la : a.length ≤ 1 := by
        have nda : (a ++ [v]).Nodup := by
          rw [e, show a ++ v :: b = (a ++ [v]) ++ b by simp] at nd
          exact (List.nodup_append.1 nd).1
        match a, nda, only with
        | [], _, _ => simp
        | [_], _, _ => simp
        | x :: y :: r, nda, only =>
          simp at nda
          have o1 := only x (by simp)
          have o2 := only y (by simp)
          have o3 := only v (by simp)
          obtain ⟨⟨n1, n2, n3⟩, ⟨n4, n5⟩, _⟩ := nda
          rcases o1 with rfl | rfl <;> rcases o2 with rfl | rfl <;> rcases o3 with rfl | rfl <;> simp_all
      match a, la, hs, lt, only, nn with
      | [], _, hs, lt, _, _ => simp at lt; omega
      | [x], _, hs, lt, only, _ =>
        simp at hs lt
        have tx := top x ((bit x).2 (by simp))
        simp
        omega
end BB
set_option Elab.async false
set_option linter.all false
set_option maxRecDepth 100000
set_option autoImplicit false
set_option maxHeartbeats 2000000
/-! k59 -/
namespace BB
open PySem PySem.Spec PyProof.Rows L2
local macro_rules | `(tactic| simp_arith [$as,*]) => `(tactic| try simp [$as,*, -e_wbind, -e_wk, -e_wb2, -e_wb1, -e_wtest, -e_wand, -e_wor, -e_wnot, -e_wandV, -e_worV, -e_wnotV, -e_wif, -e_wchain, -e_wop, -e_witems, -e_sseq, -e_slift, -e_sdrop, -e_sret, -e_sif, -e_stry, -e_sapp, -e_sext, -e_runB, -e_sasg, -e_sasgF, -e_sasgT, -e_sfor, -e_wlst, -e_warg, -e_wnil, -e_wcons, -e_wnilC, -e_wconsC, -e_wtup, -e_wlis, -e_wlc, -e_wcall, -e_wsl, -e_wTupRg, -e_wLstRg, -e_wsel, ↓k_wbind, ↓k_wk, ↓k_wb2, ↓k_wb1, ↓k_wtest, ↓k_wand, ↓k_wor, ↓k_wnot, ↓k_wandV, ↓k_worV, ↓k_wnotV, ↓k_wif, ↓k_wchain, ↓k_wop, ↓k_witems, ↓k_sseq, ↓k_slift, ↓k_sdrop, ↓k_sret, ↓k_sif, ↓k_stry, ↓k_sapp, ↓k_sext, ↓k_wlst, ↓k_warg, ↓k_wnil, ↓k_wcons, ↓k_wnilC, ↓k_wconsC, ↓k_wtup, ↓k_wlis, ↓k_wlc, ↓k_wcall, ↓k_wsl, ↓k_wTupRg, ↓k_wLstRg, ↓k_wsel, ↓k_wrep, ↓k_wcat, ↓k_wlc2, ↓k_spop, ↓k_spopAt, ↓k_sdone, ↓k_wdget, ↓k_wdgetX, ↓k_sdput, ↓k_wdin, ↓k_wlenD, ↓k_wdc, ↓k_sasgD, ↓k_wsortD, ↓k_sdnew, ↓k_windex, ↓k_sset2, ↓k_slock, ↓k_wlock, ↓k_wkeysL, ↓k_wdinL, ↓k_sasg, ↓k_sasgF, ↓k_sasgT, ↓k_sfor, ↓k_runB, sizeLine_eq])
local macro_rules | `(tactic| simp_arith) => `(tactic| try simp [-e_wbind, -e_wk, -e_wb2, -e_wb1, -e_wtest, -e_wand, -e_wor, -e_wnot, -e_wandV, -e_worV, -e_wnotV, -e_wif, -e_wchain, -e_wop, -e_witems, -e_sseq, -e_slift, -e_sdrop, -e_sret, -e_sif, -e_stry, -e_sapp, -e_sext, -e_runB, -e_sasg, -e_sasgF, -e_sasgT, -e_sfor, -e_wlst, -e_warg, -e_wnil, -e_wcons, -e_wnilC, -e_wconsC, -e_wtup, -e_wlis, -e_wlc, -e_wcall, -e_wsl, -e_wTupRg, -e_wLstRg, -e_wsel, ↓k_wbind, ↓k_wk, ↓k_wb2, ↓k_wb1, ↓k_wtest, ↓k_wand, ↓k_wor, ↓k_wnot, ↓k_wandV, ↓k_worV, ↓k_wnotV, ↓k_wif, ↓k_wchain, ↓k_wop, ↓k_witems, ↓k_sseq, ↓k_slift, ↓k_sdrop, ↓k_sret, ↓k_sif, ↓k_stry, ↓k_sapp, ↓k_sext, ↓k_wlst, ↓k_warg, ↓k_wnil, ↓k_wcons, ↓k_wnilC, ↓k_wconsC, ↓k_wtup, ↓k_wlis, ↓k_wlc, ↓k_wcall, ↓k_wsl, ↓k_wTupRg, ↓k_wLstRg, ↓k_wsel, ↓k_wrep, ↓k_wcat, ↓k_wlc2, ↓k_spop, ↓k_spopAt, ↓k_sdone, ↓k_wdget, ↓k_wdgetX, ↓k_sdput, ↓k_wdin, ↓k_wlenD, ↓k_wdc, ↓k_sasgD, ↓k_wsortD, ↓k_sdnew, ↓k_windex, ↓k_sset2, ↓k_slock, ↓k_wlock, ↓k_wkeysL, ↓k_wdinL, ↓k_sasg, ↓k_sasgF, ↓k_sasgT, ↓k_sfor, ↓k_runB, sizeLine_eq])
/-! weights and ranks alike (plain). -/
def lowS (m : Nat) (rs : List Int) (other : Int) : Int := setOf m fun w => ib other w && (List.range m).all fun u => !ib other u || decide (wv rs w ≤ wv rs u)
theorem ib_lowS {m : Nat} {rs : List Int} {other : Int} {w : Nat} : ib (lowS m rs other) w = true ↔ w < m ∧ ib other w = true ∧ ∀ u, u < m → ib other u = true → wv rs w ≤ wv rs u := by
  unfold lowS
  rw [ib_setOf, Bool.and_eq_true, Bool.and_eq_true, decide_eq_true_iff, List.all_eq_true]
  constructor
  · rintro ⟨h1, h2, h3⟩
    refine ⟨h1, h2, fun u hu ou => ?_⟩
    have := h3 u (List.mem_range.2 hu)
    rw [ou] at this
    simpa using this
  · rintro ⟨h1, h2, h3⟩
    refine ⟨h1, h2, fun u hu => ?_⟩
    cases q : ib other u with
    | false => rfl
    | true => simpa using h3 u (List.mem_range.1 hu) q
def likeB (m : Nat) (ws rs : List Int) (other : Int) (one : Nat) : Bool := decide (wsum ws (Builtin.bitAnd other (Builtin.bitNot (one : Int))) < wsum ws (Builtin.bitAnd other (one : Int))) == decide (Builtin.bitAnd (lowS m rs other) (Builtin.bitNot (one : Int)) = 0)
def alikeB (m : Nat) (ws rs : List Int) : Bool := (List.range (2 ^ m - 1)).all fun i => (List.range (2 ^ m)).all fun one => likeB m ws rs (1 + (i : Int)) one
theorem min_of {f : Nat → Int} {p : Nat → Bool} : ∀ {n : Nat}, (∃ w, w < n ∧ p w = true) → ∃ v, v < n ∧ p v = true ∧ ∀ u, u < n → p u = true → f v ≤ f u
  | 0, ⟨w, h, _⟩ => absurd h (Nat.not_lt_zero _)
  | n + 1, ⟨w, hw, pw⟩ => by
    by_cases c : ∃ w, w < n ∧ p w = true
    · obtain ⟨v, h1, h2, h3⟩ := min_of (n := n) (f := f) c
      cases q : p n with
      | false =>
        refine ⟨v, by omega, h2, fun u hu pu => ?_⟩
        by_cases e : u = n
        · subst e; rw [q] at pu; cases pu
        · exact h3 u (by omega) pu
      | true =>
        by_cases l : f v ≤ f n
        · refine ⟨v, by omega, h2, fun u hu pu => ?_⟩
          by_cases e : u = n
          · subst e; exact l
          · exact h3 u (by omega) pu
        · refine ⟨n, by omega, q, fun u hu pu => ?_⟩
          by_cases e : u = n
          · subst e; exact Int.le_refl _
          · have := h3 u (by omega) pu
            omega
    · have e : w = n := Classical.byContradiction fun z => c ⟨w, by omega, pw⟩
      subst e
      refine ⟨w, by omega, pw, fun u hu pu => ?_⟩
      have : u = w := Classical.byContradiction fun z => c ⟨u, by omega, pu⟩
      subst this; exact Int.le_refl _
/-- a lower rank outweighs all the higher ones -/
structure Big (m : Nat) (ws rs : List Int) : Prop where
  len : ws.length = m
  rg : ∀ x ∈ ws, 0 ≤ x ∧ x ≤ 1000000
  inj : ∀ u v, u < m → v < m → wv rs u = wv rs v → u = v
  sup : ∀ v, v < m → wsum ws (setOf m fun u => decide (wv rs v < wv rs u)) < wv ws v
theorem Big.like {m : Nat} {ws rs : List Int} (h : Big m ws rs) {other : Int} (ho : 0 ≤ other ∧ other < 2 ^ m) (nz : other ≠ 0) (one : Nat) : likeB m ws rs other one = true := by
  obtain ⟨w0, hw0⟩ := ne_zero_iff.1 nz
  have l0 : w0 < m := Classical.byContradiction fun z => by rw [ib_lt ho.1 ho.2 (by omega)] at hw0; cases hw0
  obtain ⟨v, hv, ov, mn⟩ := min_of (n := m) (f := wv rs) (p := ib other) ⟨w0, l0, hw0⟩
  have hlen := h.len
  have low : ∀ w, ib (lowS m rs other) w = true ↔ w = v := fun w => by
    rw [ib_lowS]
    constructor
    · rintro ⟨h1, h2, h3⟩
      have a := h3 v hv ov
      have b := mn w h1 h2
      exact h.inj w v h1 hv (by omega)
    · rintro rfl
      exact ⟨hv, ov, mn⟩
  have e : (Builtin.bitAnd (lowS m rs other) (Builtin.bitNot (one : Int)) = 0) ↔ one.testBit v = true := by
    rw [diff_zero]
    unfold sub
    constructor
    · intro s
      have := s v ((low v).2 rfl)
      rwa [ib_nat] at this
    · intro s w hw
      rw [(low w).1 hw, ib_nat]; exact s
  have rest : ∀ x : Int, sub x other → ib x v = false → wsum ws x < wv ws v := fun x sx nx => by
    refine Int.lt_of_le_of_lt (wsum_le h.rg fun w hw hx => ?_) (h.sup v hv)
    rw [ib_setOf, Bool.and_eq_true, decide_eq_true_iff, decide_eq_true_iff]
    have wm : w < m := by omega
    refine ⟨wm, ?_⟩
    have a := mn w wm (sx w hx)
    have : wv rs v ≠ wv rs w := fun z => by
      have := h.inj v w hv wm z
      rw [this, hx] at nx; cases nx
    omega
  unfold likeB
  rw [beq_iff_eq]
  refine decide_eq_decide.2 ?_
  rw [e]
  cases q : one.testBit v with
  | true =>
    have a := rest (Builtin.bitAnd other (Builtin.bitNot (one : Int))) and_sub_l (by rw [ib_and, ib_not, ib_nat, q, ov]; rfl)
    have b := wsum_ge h.rg (x := Builtin.bitAnd other (one : Int)) (v := v) (by omega) (by rw [ib_and, ib_nat, q, ov]; rfl)
    exact ⟨fun _ => rfl, fun _ => by omega⟩
  | false =>
    have a := rest (Builtin.bitAnd other (one : Int)) and_sub_l (by rw [ib_and, ib_nat, q, ov]; rfl)
    have b := wsum_ge h.rg (x := Builtin.bitAnd other (Builtin.bitNot (one : Int))) (v := v) (by omega) (by rw [ib_and, ib_not, ib_nat, q, ov]; rfl)
    exact ⟨fun z => by omega, fun z => by cases z⟩
theorem Big.alike {m : Nat} {ws rs : List Int} (h : Big m ws rs) : alikeB m ws rs = true := by
  unfold alikeB
  rw [List.all_eq_true]
  intro i hi
  rw [List.all_eq_true]
  intro one _
  have := List.mem_range.1 hi
  have p := pow_cast m
  exact h.like ⟨by omega, by omega⟩ (by omega) one
/-! ranks by the place in the falling row -/
def idxOf (ord : List Int) (x : Int) : Nat := ord.findIdx fun y => y == x
theorem idx_at {ord : List Int} {x : Int} (h : x ∈ ord) : ord[idxOf ord x]? = some x ∧ ∀ m z, m < idxOf ord x → ord[m]? = some z → z ≠ x := by
  have lt : idxOf ord x < ord.length := List.findIdx_lt_length_of_exists ⟨x, h, by simp⟩
  refine ⟨?_, fun m z hm hz e => ?_⟩
  · rw [List.getElem?_eq_getElem lt]
    have := List.findIdx_getElem (xs := ord) (p := fun y => y == x) (w := lt)
    simp at this
    rw [show ord[idxOf ord x] = x from this]
  · subst e
    have := List.not_of_lt_findIdx hm
    obtain ⟨l, e2⟩ := List.getElem?_eq_some_iff.1 hz
    rw [e2] at this
    simp at this
theorem fall_at {ord : List Int} (h : ord.Pairwise (· ≥ ·)) {i j : Nat} {x y : Int} (hx : ord[i]? = some x) (hy : ord[j]? = some y) (l : i ≤ j) : y ≤ x := by
  by_cases e : i = j
  · subst e; rw [hx] at hy; cases hy; exact Int.le_refl _
  · obtain ⟨l1, e1⟩ := List.getElem?_eq_some_iff.1 hx
    obtain ⟨l2, e2⟩ := List.getElem?_eq_some_iff.1 hy
    have := List.pairwise_iff_getElem.1 h i j l1 l2 (by omega)
    rw [e1, e2] at this
    exact this
theorem wv_mem {ws : List Int} {w : Nat} (h : w < ws.length) : wv ws w ∈ ws := by
  unfold wv
  rw [List.getD_eq_getElem?_getD, List.getElem?_eq_getElem h]
  exact List.getElem_mem h
theorem wv_map {f : Int → Int} {ws : List Int} {w : Nat} (h : w < ws.length) : wv (ws.map f) w = f (wv ws w) := by
  unfold wv
  simp [h]
/-- stepped weights, none of them 0, and their places -/
theorem big_step {m : Nat} {ws row ord : List Int} (hl : ws.length = m) (rg : ∀ x ∈ ws, 0 ≤ x ∧ x ≤ 1000000) (pos : ∀ x ∈ ws, 0 < x) (hr : RowOf ws row) (hs : stepB 0 row = true) (ho : ord.Perm ws) (od : ord.Pairwise (· ≥ ·)) : Big m ws (ws.map fun x => ((idxOf ord x : Nat) : Int)) := by
  have hs := stepB_iff.1 hs
  have fw : (ws.filter fun x => decide (0 < x)) = ws := List.filter_eq_self.2 fun x hx => by simpa using pos x hx
  have rp : row.Perm ws := by have := hr.perm; rwa [fw] at this
  have below : ∀ v, v < m → ∃ p q, row = p ++ wv ws v :: q ∧ p.sum < wv ws v ∧ (∀ x ∈ p, 0 < x ∧ x < wv ws v) ∧ ∀ x ∈ q, wv ws v ≤ x := fun v hv => by
    have mem : wv ws v ∈ row := rp.mem_iff.2 (wv_mem (by omega))
    obtain ⟨p, q, e⟩ := List.append_of_mem mem
    have lt := hs p _ q e
    have pp : ∀ x ∈ p, 0 < x := fun x hx => pos x (rp.mem_iff.1 (by rw [e]; simp [hx]))
    have od := hr.ord
    rw [e] at od
    refine ⟨p, q, e, by omega, fun x hx => ⟨pp x hx, ?_⟩, fun x hx => ?_⟩
    · have : x ≤ p.sum := by
        obtain ⟨a, b, e2⟩ := List.append_of_mem hx
        rw [e2, List.sum_append, List.sum_cons]
        have h1 := sum_nn (l := a) fun y hy => by have := pp y (by rw [e2]; simp [hy]); omega
        have h2 := sum_nn (l := b) fun y hy => by have := pp y (by rw [e2]; simp [hy]); omega
        omega
      omega
    · exact (List.pairwise_cons.1 (List.pairwise_append.1 od).2.1).1 x hx
  have strict : row.Pairwise (· < ·) := by
    rw [List.pairwise_iff_getElem]
    intro i j hi hj lt
    have e := at_split hj
    have g : row.getD j 0 = row[j] := by rw [List.getD_eq_getElem?_getD, List.getElem?_eq_getElem hj]; rfl
    have := hs _ _ _ e
    rw [g] at this
    have mi : row[i] ∈ row.take j := by
      rw [List.mem_take_iff_getElem]
      exact ⟨i, by omega, rfl⟩
    obtain ⟨a, b, e2⟩ := List.append_of_mem mi
    have pp : ∀ x ∈ row.take j, 0 ≤ x := fun x hx => by have := pos x (rp.mem_iff.1 (List.mem_of_mem_take hx)); omega
    rw [e2, List.sum_append, List.sum_cons] at this
    have h1 := sum_nn (l := a) fun y hy => pp y (by rw [e2]; simp [hy])
    have h2 := sum_nn (l := b) fun y hy => pp y (by rw [e2]; simp [hy])
    omega
  have nd : ws.Nodup := rp.nodup_iff.1 (strict.imp fun h e => by omega)
  have winj : ∀ u v, u < m → v < m → wv ws u = wv ws v → u = v := fun u v hu hv e => by
    have e1 : ws[u]'(by omega) = ws[v]'(by omega) := by
      unfold wv at e
      rw [List.getD_eq_getElem?_getD, List.getD_eq_getElem?_getD, List.getElem?_eq_getElem (by omega), List.getElem?_eq_getElem (by omega)] at e
      exact e
    have pw := List.pairwise_iff_getElem.1 nd
    rcases Nat.lt_trichotomy u v with z | z | z
    · exact absurd e1 (pw u v (by omega) (by omega) z)
    · exact z
    · exact absurd e1.symm (pw v u (by omega) (by omega) z)
  have rank : ∀ u, u < m → wv (ws.map fun x => ((idxOf ord x : Nat) : Int)) u = ((idxOf ord (wv ws u) : Nat) : Int) := fun u hu => wv_map (by omega)
  have om : ∀ u, u < m → wv ws u ∈ ord := fun u hu => ho.mem_iff.2 (wv_mem (by omega))
  refine ⟨hl, rg, fun u v hu hv e => ?_, fun v hv => ?_⟩
  · rw [rank u hu, rank v hv] at e
    have a := (idx_at (om u hu)).1
    have b := (idx_at (om v hv)).1
    have e : idxOf ord (wv ws u) = idxOf ord (wv ws v) := by omega
    rw [e, b] at a
    exact (winj u v hu hv (Option.some.inj a).symm)
  · obtain ⟨p, q, e, lt, hp, hq⟩ := below v hv
    obtain ⟨vs, W⟩ := hr.wds
    have hsum := W.sum rg (setOf m fun u => decide (wv (ws.map fun x => ((idxOf ord x : Nat) : Int)) v < wv (ws.map fun x => ((idxOf ord x : Nat) : Int)) u))
    rw [hsum]
    -- all of these weigh less than v
    have less : ∀ u, u < m → wv (ws.map fun x => ((idxOf ord x : Nat) : Int)) v < wv (ws.map fun x => ((idxOf ord x : Nat) : Int)) u → wv ws u < wv ws v := fun u hu h => by
      rw [rank u hu, rank v hv] at h
      have a := (idx_at (om u hu)).1
      have b := (idx_at (om v hv)).1
      have := fall_at od b a (by omega)
      have ne : wv ws u ≠ wv ws v := fun z => by rw [z] at h; omega
      omega
    have em := W.map
    rw [e] at em
    obtain ⟨a, l2, e1, ea, e2⟩ := List.map_eq_append_iff.1 em
    obtain ⟨x, c, e3, ex, ec⟩ := List.map_eq_cons_iff.1 e2
    subst e3
    have n2 : (x :: c).filter (ib (setOf m fun u => decide (wv (ws.map fun x => ((idxOf ord x : Nat) : Int)) v < wv (ws.map fun x => ((idxOf ord x : Nat) : Int)) u))) = [] := by
      rw [List.filter_eq_nil_iff]
      intro u hu z
      rw [ib_setOf, Bool.and_eq_true, decide_eq_true_iff, decide_eq_true_iff] at z
      have := less u z.1 z.2
      rcases List.mem_cons.1 hu with rfl | hu
      · omega
      · have : wv ws u ∈ q := by rw [← ec]; exact List.mem_map_of_mem hu
        have := hq _ this
        omega
    rw [e1, List.filter_append, n2, List.append_nil]
    have := sum_filter_le (l := a) (f := wv ws) (p := ib (setOf m fun u => decide (wv (ws.map fun x => ((idxOf ord x : Nat) : Int)) v < wv (ws.map fun x => ((idxOf ord x : Nat) : Int)) u))) fun y _ => (wv_rg rg y).1
    rw [ea] at this
    omega
end BB
set_option Elab.async false
set_option linter.all false
set_option maxRecDepth 100000
set_option autoImplicit false
set_option maxHeartbeats 2000000
/-! k59 -/
namespace BB
open PySem PySem.Spec PyProof.Rows L2
local macro_rules | `(tactic| simp_arith [$as,*]) => `(tactic| try simp [$as,*, -e_wbind, -e_wk, -e_wb2, -e_wb1, -e_wtest, -e_wand, -e_wor, -e_wnot, -e_wandV, -e_worV, -e_wnotV, -e_wif, -e_wchain, -e_wop, -e_witems, -e_sseq, -e_slift, -e_sdrop, -e_sret, -e_sif, -e_stry, -e_sapp, -e_sext, -e_runB, -e_sasg, -e_sasgF, -e_sasgT, -e_sfor, -e_wlst, -e_warg, -e_wnil, -e_wcons, -e_wnilC, -e_wconsC, -e_wtup, -e_wlis, -e_wlc, -e_wcall, -e_wsl, -e_wTupRg, -e_wLstRg, -e_wsel, ↓k_wbind, ↓k_wk, ↓k_wb2, ↓k_wb1, ↓k_wtest, ↓k_wand, ↓k_wor, ↓k_wnot, ↓k_wandV, ↓k_worV, ↓k_wnotV, ↓k_wif, ↓k_wchain, ↓k_wop, ↓k_witems, ↓k_sseq, ↓k_slift, ↓k_sdrop, ↓k_sret, ↓k_sif, ↓k_stry, ↓k_sapp, ↓k_sext, ↓k_wlst, ↓k_warg, ↓k_wnil, ↓k_wcons, ↓k_wnilC, ↓k_wconsC, ↓k_wtup, ↓k_wlis, ↓k_wlc, ↓k_wcall, ↓k_wsl, ↓k_wTupRg, ↓k_wLstRg, ↓k_wsel, ↓k_wrep, ↓k_wcat, ↓k_wlc2, ↓k_spop, ↓k_spopAt, ↓k_sdone, ↓k_wdget, ↓k_wdgetX, ↓k_sdput, ↓k_wdin, ↓k_wlenD, ↓k_wdc, ↓k_sasgD, ↓k_wsortD, ↓k_sdnew, ↓k_windex, ↓k_sset2, ↓k_slock, ↓k_wlock, ↓k_wkeysL, ↓k_wdinL, ↓k_sasg, ↓k_sasgF, ↓k_sasgT, ↓k_sfor, ↓k_runB, sizeLine_eq])
local macro_rules | `(tactic| simp_arith) => `(tactic| try simp [-e_wbind, -e_wk, -e_wb2, -e_wb1, -e_wtest, -e_wand, -e_wor, -e_wnot, -e_wandV, -e_worV, -e_wnotV, -e_wif, -e_wchain, -e_wop, -e_witems, -e_sseq, -e_slift, -e_sdrop, -e_sret, -e_sif, -e_stry, -e_sapp, -e_sext, -e_runB, -e_sasg, -e_sasgF, -e_sasgT, -e_sfor, -e_wlst, -e_warg, -e_wnil, -e_wcons, -e_wnilC, -e_wconsC, -e_wtup, -e_wlis, -e_wlc, -e_wcall, -e_wsl, -e_wTupRg, -e_wLstRg, -e_wsel, ↓k_wbind, ↓k_wk, ↓k_wb2, ↓k_wb1, ↓k_wtest, ↓k_wand, ↓k_wor, ↓k_wnot, ↓k_wandV, ↓k_worV, ↓k_wnotV, ↓k_wif, ↓k_wchain, ↓k_wop, ↓k_witems, ↓k_sseq, ↓k_slift, ↓k_sdrop, ↓k_sret, ↓k_sif, ↓k_stry, ↓k_sapp, ↓k_sext, ↓k_wlst, ↓k_warg, ↓k_wnil, ↓k_wcons, ↓k_wnilC, ↓k_wconsC, ↓k_wtup, ↓k_wlis, ↓k_wlc, ↓k_wcall, ↓k_wsl, ↓k_wTupRg, ↓k_wLstRg, ↓k_wsel, ↓k_wrep, ↓k_wcat, ↓k_wlc2, ↓k_spop, ↓k_spopAt, ↓k_sdone, ↓k_wdget, ↓k_wdgetX, ↓k_sdput, ↓k_wdin, ↓k_wlenD, ↓k_wdc, ↓k_sasgD, ↓k_wsortD, ↓k_sdnew, ↓k_windex, ↓k_sset2, ↓k_slock, ↓k_wlock, ↓k_wkeysL, ↓k_wdinL, ↓k_sasg, ↓k_sasgF, ↓k_sasgT, ↓k_sfor, ↓k_runB, sizeLine_eq])
/-! weights for ranks (plain). -/
theorem sum_setN {n : Nat} {K : List Nat} (nd : K.Nodup) (lt : ∀ k ∈ K, k < n) : (K.map fun (w : Nat) => (2 : Int) ^ w).sum = setOf n fun w => decide (w ∈ K) := by
  unfold setOf
  refine perm_sumI (List.Perm.map _ ((List.perm_ext_iff_of_nodup nd (List.Nodup.sublist List.filter_sublist List.nodup_range)).2 fun a => ?_))
  rw [List.mem_filter, List.mem_range, decide_eq_true_iff]
  exact ⟨fun h => ⟨lt a h, h⟩, fun h => h.2⟩
def stW (ord rs : List Int) : List Int := rs.map fun r => (2 : Int) ^ idxOf ord r
theorem idx_inj {ord : List Int} {x y : Int} (hx : x ∈ ord) (hy : y ∈ ord) (e : idxOf ord x = idxOf ord y) : x = y := by
  have a := (idx_at hx).1
  have b := (idx_at hy).1
  rw [e, b] at a
  exact (Option.some.inj a).symm
theorem nodup_wv {rs : List Int} (nd : rs.Nodup) {u v : Nat} (hu : u < rs.length) (hv : v < rs.length) (e : wv rs u = wv rs v) : u = v := by
  have e1 : rs[u] = rs[v] := by
    unfold wv at e
    rw [List.getD_eq_getElem?_getD, List.getD_eq_getElem?_getD, List.getElem?_eq_getElem hu, List.getElem?_eq_getElem hv] at e
    exact e
  have pw := List.pairwise_iff_getElem.1 nd
  rcases Nat.lt_trichotomy u v with z | z | z
  · exact absurd e1 (pw u v hu hv z)
  · exact z
  · exact absurd e1.symm (pw v u hv hu z)
theorem idx_lt {ord : List Int} {x : Int} (h : x ∈ ord) : idxOf ord x < ord.length := List.findIdx_lt_length_of_exists ⟨x, h, by simp⟩
theorem big_rank {m : Nat} {rs ord : List Int} (hl : rs.length = m) (m5 : m ≤ 18) (nd : rs.Nodup) (ho : ord.Perm rs) (od : ord.Pairwise (· ≥ ·)) : Big m (stW ord rs) rs := by
  have om : ∀ u, u < m → wv rs u ∈ ord := fun u hu => ho.mem_iff.2 (wv_mem (by omega))
  have ol : ord.length = m := by rw [ho.length_eq, hl]
  have wt : ∀ u, u < m → wv (stW ord rs) u = 2 ^ idxOf ord (wv rs u) := fun u hu => wv_map (f := fun r => (2 : Int) ^ idxOf ord r) (by omega)
  refine ⟨by unfold stW; rw [List.length_map, hl], fun x hx => ?_, fun u v hu hv e => nodup_wv nd (by omega) (by omega) e, fun v hv => ?_⟩
  · unfold stW at hx
    obtain ⟨r, hr, rfl⟩ := List.mem_map.1 hx
    have l := idx_lt (ho.mem_iff.2 hr)
    refine ⟨Int.pow_nonneg (by decide), ?_⟩
    rw [pow_cast]
    have : 2 ^ idxOf ord r ≤ 2 ^ 18 := Nat.pow_le_pow_right (by decide) (by omega)
    have e : (2 : Nat) ^ 18 = 262144 := by decide
    omega
  · rw [wt v hv, ← wsum_filter]
    have ll : (stW ord rs).length = m := by unfold stW; rw [List.length_map, hl]
    rw [ll]
    have el : ∀ u ∈ (List.range m).filter (ib (setOf m fun u => decide (wv rs v < wv rs u))), u < m ∧ wv rs v < wv rs u := fun u hu => by
      rw [List.mem_filter, ib_setOf, Bool.and_eq_true, decide_eq_true_iff, decide_eq_true_iff] at hu
      exact hu.2
    generalize hL : (List.range m).filter (ib (setOf m fun u => decide (wv rs v < wv rs u))) = L at el
    have ndL : L.Nodup := by rw [← hL]; exact List.Nodup.sublist List.filter_sublist List.nodup_range
    have e1 : L.map (wv (stW ord rs)) = (L.map fun u => idxOf ord (wv rs u)).map fun (w : Nat) => (2 : Int) ^ w := by
      rw [List.map_map]
      exact List.map_congr_left fun u hu => wt u (el u hu).1
    rw [e1, sum_setN (n := idxOf ord (wv rs v)) ?_ ?_]
    · exact setOf_range.2
    · refine List.Pairwise.map _ (fun a b (h : a ≠ b ∧ a < m ∧ b < m) e => h.1 ?_) (ndL.imp_of_mem fun {a b} ha hb h => ⟨h, (el a ha).1, (el b hb).1⟩)
      exact nodup_wv nd (by omega) (by omega) (idx_inj (om a h.2.1) (om b h.2.2) e)
    · intro k hk
      obtain ⟨u, hu, rfl⟩ := List.mem_map.1 hk
      obtain ⟨um, lt⟩ := el u hu
      have a := (idx_at (om u um)).1
      have b := (idx_at (om v hv)).1
      refine Classical.byContradiction fun z => ?_
      have := fall_at od b a (by omega)
      omega
end BB
set_option Elab.async false
set_option linter.all false
set_option maxRecDepth 100000
set_option autoImplicit false
set_option maxHeartbeats 2000000
/-! k59 -/
namespace BB
open PySem PySem.Spec PyProof.Rows L2
local macro_rules | `(tactic| simp_arith [$as,*]) => `(tactic| try simp [$as,*, -e_wbind, -e_wk, -e_wb2, -e_wb1, -e_wtest, -e_wand, -e_wor, -e_wnot, -e_wandV, -e_worV, -e_wnotV, -e_wif, -e_wchain, -e_wop, -e_witems, -e_sseq, -e_slift, -e_sdrop, -e_sret, -e_sif, -e_stry, -e_sapp, -e_sext, -e_runB, -e_sasg, -e_sasgF, -e_sasgT, -e_sfor, -e_wlst, -e_warg, -e_wnil, -e_wcons, -e_wnilC, -e_wconsC, -e_wtup, -e_wlis, -e_wlc, -e_wcall, -e_wsl, -e_wTupRg, -e_wLstRg, -e_wsel, ↓k_wbind, ↓k_wk, ↓k_wb2, ↓k_wb1, ↓k_wtest, ↓k_wand, ↓k_wor, ↓k_wnot, ↓k_wandV, ↓k_worV, ↓k_wnotV, ↓k_wif, ↓k_wchain, ↓k_wop, ↓k_witems, ↓k_sseq, ↓k_slift, ↓k_sdrop, ↓k_sret, ↓k_sif, ↓k_stry, ↓k_sapp, ↓k_sext, ↓k_wlst, ↓k_warg, ↓k_wnil, ↓k_wcons, ↓k_wnilC, ↓k_wconsC, ↓k_wtup, ↓k_wlis, ↓k_wlc, ↓k_wcall, ↓k_wsl, ↓k_wTupRg, ↓k_wLstRg, ↓k_wsel, ↓k_wrep, ↓k_wcat, ↓k_wlc2, ↓k_spop, ↓k_spopAt, ↓k_sdone, ↓k_wdget, ↓k_wdgetX, ↓k_sdput, ↓k_wdin, ↓k_wlenD, ↓k_wdc, ↓k_sasgD, ↓k_wsortD, ↓k_sdnew, ↓k_windex, ↓k_sset2, ↓k_slock, ↓k_wlock, ↓k_wkeysL, ↓k_wdinL, ↓k_sasg, ↓k_sasgF, ↓k_sasgT, ↓k_sfor, ↓k_runB, sizeLine_eq])
local macro_rules | `(tactic| simp_arith) => `(tactic| try simp [-e_wbind, -e_wk, -e_wb2, -e_wb1, -e_wtest, -e_wand, -e_wor, -e_wnot, -e_wandV, -e_worV, -e_wnotV, -e_wif, -e_wchain, -e_wop, -e_witems, -e_sseq, -e_slift, -e_sdrop, -e_sret, -e_sif, -e_stry, -e_sapp, -e_sext, -e_runB, -e_sasg, -e_sasgF, -e_sasgT, -e_sfor, -e_wlst, -e_warg, -e_wnil, -e_wcons, -e_wnilC, -e_wconsC, -e_wtup, -e_wlis, -e_wlc, -e_wcall, -e_wsl, -e_wTupRg, -e_wLstRg, -e_wsel, ↓k_wbind, ↓k_wk, ↓k_wb2, ↓k_wb1, ↓k_wtest, ↓k_wand, ↓k_wor, ↓k_wnot, ↓k_wandV, ↓k_worV, ↓k_wnotV, ↓k_wif, ↓k_wchain, ↓k_wop, ↓k_witems, ↓k_sseq, ↓k_slift, ↓k_sdrop, ↓k_sret, ↓k_sif, ↓k_stry, ↓k_sapp, ↓k_sext, ↓k_wlst, ↓k_warg, ↓k_wnil, ↓k_wcons, ↓k_wnilC, ↓k_wconsC, ↓k_wtup, ↓k_wlis, ↓k_wlc, ↓k_wcall, ↓k_wsl, ↓k_wTupRg, ↓k_wLstRg, ↓k_wsel, ↓k_wrep, ↓k_wcat, ↓k_wlc2, ↓k_spop, ↓k_spopAt, ↓k_sdone, ↓k_wdget, ↓k_wdgetX, ↓k_sdput, ↓k_wdin, ↓k_wlenD, ↓k_wdc, ↓k_sasgD, ↓k_wsortD, ↓k_sdnew, ↓k_windex, ↓k_sset2, ↓k_slock, ↓k_wlock, ↓k_wkeysL, ↓k_wdinL, ↓k_sasg, ↓k_sasgF, ↓k_sasgT, ↓k_sfor, ↓k_runB, sizeLine_eq])
/-! dicts of worlds (plain). -/
def encN (l : List Nat) : List D := l.map fun (a : Nat) => PyData.int (a : Int)
theorem encN_len {l : List Nat} : (encN l).length = l.length := List.length_map ..
theorem andN {a c : Nat} : Builtin.bitAnd (a : Int) (c : Int) = ((a &&& c : Nat) : Int) := ib_ext fun i => by rw [ib_and, ib_nat, ib_nat, ib_nat, Nat.testBit_and]
def dN (K : List Nat) : List (Key × D) := dks (K.map fun (w : Nat) => (w : Int))
theorem mem_castN {K : List Nat} {w : Nat} : ((w : Int) ∈ K.map fun (w : Nat) => (w : Int)) ↔ w ∈ K := by
  rw [List.mem_map]
  exact ⟨fun ⟨v, hv, e⟩ => by have : v = w := by omega
                              rw [← this]; exact hv, fun h => ⟨w, h, rfl⟩⟩
theorem dN_get {K : List Nat} {w : Nat} : (getD' (dN K) (.inl (w : Int))).isSome = decide (w ∈ K) := by
  unfold dN
  rw [dks_get]
  congr 1
  exact propext mem_castN
theorem dN_none {K : List Nat} {w : Nat} : (getD' (dN K) (.inl (w : Int))).isNone = decide (w ∉ K) := by
  have e := dN_get (K := K) (w := w)
  cases q : getD' (dN K) (.inl (w : Int)) with
  | none => rw [q] at e; simpa using e.symm
  | some z => rw [q] at e; simpa using e.symm
theorem dN_put {K : List Nat} {w : Nat} (h : w ∉ K) : putD (dN K) (.inl (w : Int)) (.bool true) = dN (K ++ [w]) := by
  unfold dN
  rw [dks_put]
  unfold addK
  rw [if_neg (fun z => h (mem_castN.1 z)), List.map_append]; rfl
theorem dN_len {K : List Nat} : (dN K).length = K.length := by unfold dN; rw [dks_len, List.length_map]
theorem dN_items {K : List Nat} : (dN K).map (fun p => keyD p.1) = encN K := by
  unfold dN encN
  rw [dks_items, List.map_map]; rfl
theorem addAll_nodup : ∀ {l K : List Int}, (∀ k ∈ l, k ∉ K) → l.Nodup → addAll K l = K ++ l
  | [], K, _, _ => by simp [addAll]
  | x :: l, K, h, nd => by
    obtain ⟨h1, h2⟩ := List.nodup_cons.1 nd
    have e : addK K x = K ++ [x] := if_neg (h x List.mem_cons_self)
    show addAll (addK K x) l = _
    rw [e, addAll_nodup (fun k hk z => ?_) h2]
    · simp
    · rcases List.mem_append.1 z with z | z
      · exact h k (List.mem_cons_of_mem _ hk) z
      · rw [List.mem_singleton] at z; subst z; exact h1 hk
theorem nodup_lt {K : List Nat} {n : Nat} (nd : K.Nodup) (lt : ∀ k ∈ K, k < n) : K.length ≤ n := by
  have h : (K.map fun (w : Nat) => (w : Int)).Nodup := List.Pairwise.map _ (fun a b e => by omega) nd
  have := len_of (n := n) (by omega) h (fun x hx => by
    rw [List.mem_map] at hx
    obtain ⟨w, hw, rfl⟩ := hx
    have := lt w hw
    omega)
  rw [List.length_map] at this
  omega
end BB
set_option Elab.async false
set_option linter.all false
set_option maxRecDepth 100000
set_option autoImplicit false
set_option maxHeartbeats 2000000
/-! k59 -/
namespace BB
open PySem PySem.Spec PyProof.Rows L2
local macro_rules | `(tactic| simp_arith [$as,*]) => `(tactic| try simp [$as,*, -e_wbind, -e_wk, -e_wb2, -e_wb1, -e_wtest, -e_wand, -e_wor, -e_wnot, -e_wandV, -e_worV, -e_wnotV, -e_wif, -e_wchain, -e_wop, -e_witems, -e_sseq, -e_slift, -e_sdrop, -e_sret, -e_sif, -e_stry, -e_sapp, -e_sext, -e_runB, -e_sasg, -e_sasgF, -e_sasgT, -e_sfor, -e_wlst, -e_warg, -e_wnil, -e_wcons, -e_wnilC, -e_wconsC, -e_wtup, -e_wlis, -e_wlc, -e_wcall, -e_wsl, -e_wTupRg, -e_wLstRg, -e_wsel, ↓k_wbind, ↓k_wk, ↓k_wb2, ↓k_wb1, ↓k_wtest, ↓k_wand, ↓k_wor, ↓k_wnot, ↓k_wandV, ↓k_worV, ↓k_wnotV, ↓k_wif, ↓k_wchain, ↓k_wop, ↓k_witems, ↓k_sseq, ↓k_slift, ↓k_sdrop, ↓k_sret, ↓k_sif, ↓k_stry, ↓k_sapp, ↓k_sext, ↓k_wlst, ↓k_warg, ↓k_wnil, ↓k_wcons, ↓k_wnilC, ↓k_wconsC, ↓k_wtup, ↓k_wlis, ↓k_wlc, ↓k_wcall, ↓k_wsl, ↓k_wTupRg, ↓k_wLstRg, ↓k_wsel, ↓k_wrep, ↓k_wcat, ↓k_wlc2, ↓k_spop, ↓k_spopAt, ↓k_sdone, ↓k_wdget, ↓k_wdgetX, ↓k_sdput, ↓k_wdin, ↓k_wlenD, ↓k_wdc, ↓k_sasgD, ↓k_wsortD, ↓k_sdnew, ↓k_windex, ↓k_sset2, ↓k_slock, ↓k_wlock, ↓k_wkeysL, ↓k_wdinL, ↓k_sasg, ↓k_sasgF, ↓k_sasgT, ↓k_sfor, ↓k_runB, sizeLine_eq])
local macro_rules | `(tactic| simp_arith) => `(tactic| try simp [-e_wbind, -e_wk, -e_wb2, -e_wb1, -e_wtest, -e_wand, -e_wor, -e_wnot, -e_wandV, -e_worV, -e_wnotV, -e_wif, -e_wchain, -e_wop, -e_witems, -e_sseq, -e_slift, -e_sdrop, -e_sret, -e_sif, -e_stry, -e_sapp, -e_sext, -e_runB, -e_sasg, -e_sasgF, -e_sasgT, -e_sfor, -e_wlst, -e_warg, -e_wnil, -e_wcons, -e_wnilC, -e_wconsC, -e_wtup, -e_wlis, -e_wlc, -e_wcall, -e_wsl, -e_wTupRg, -e_wLstRg, -e_wsel, ↓k_wbind, ↓k_wk, ↓k_wb2, ↓k_wb1, ↓k_wtest, ↓k_wand, ↓k_wor, ↓k_wnot, ↓k_wandV, ↓k_worV, ↓k_wnotV, ↓k_wif, ↓k_wchain, ↓k_wop, ↓k_witems, ↓k_sseq, ↓k_slift, ↓k_sdrop, ↓k_sret, ↓k_sif, ↓k_stry, ↓k_sapp, ↓k_sext, ↓k_wlst, ↓k_warg, ↓k_wnil, ↓k_wcons, ↓k_wnilC, ↓k_wconsC, ↓k_wtup, ↓k_wlis, ↓k_wlc, ↓k_wcall, ↓k_wsl, ↓k_wTupRg, ↓k_wLstRg, ↓k_wsel, ↓k_wrep, ↓k_wcat, ↓k_wlc2, ↓k_spop, ↓k_spopAt, ↓k_sdone, ↓k_wdget, ↓k_wdgetX, ↓k_sdput, ↓k_wdin, ↓k_wlenD, ↓k_wdc, ↓k_sasgD, ↓k_wsortD, ↓k_sdnew, ↓k_windex, ↓k_sset2, ↓k_slock, ↓k_wlock, ↓k_wkeysL, ↓k_wdinL, ↓k_sasg, ↓k_sasgF, ↓k_sasgT, ↓k_sfor, ↓k_runB, sizeLine_eq])
/-! what all laws share -/
theorem run__law_same (cs : List Cell) (b : Nat) (R : Except Er D → Nat → Prop) (h : spec__law_same cs b R) : cs.length = 2 ∧ runB 2 b__law_same cs b R := by
  obtain ⟨d, e, rfl, rfl, ok, h⟩ := h
  refine ⟨rfl, ?_⟩
  simp [b__law_same, startE, kRepr, ok, PyData.eqv]
  exact ⟨by decide, h⟩
theorem cut_ints (ns : List Int) (hi : Int) : ∃ ms : List Int, cutD (ns.map PyData.int) none (some hi) = ms.map PyData.int ∧ ms.length ≤ ns.length := by
  unfold cutD
  rw [← List.map_drop, ← List.map_take]
  exact ⟨_, rfl, by rw [List.length_take, List.length_drop]; omega⟩
theorem run__law_stream (cs : List Cell) (b : Nat) (R : Except Er D → Nat → Prop) (h : spec__law_stream cs b R) : cs.length = 1 ∧ runB 6 b__law_stream cs b R := by
  obtain ⟨ns, rfl, few, h⟩ := h
  refine ⟨rfl, ?_⟩
  obtain ⟨l0, el0, hl0⟩ := cut_ints ns 63
  simp [b__law_stream, startE, wcutR]
  rw [el0]
  have new : ∀ {x : Int}, 0 ≤ x % 1009 ∧ x % 1009 < 2000000000 := fun {x} => ⟨by omega, by omega⟩
  refine wFor_xs PyData.int (fun l δ b' => b' = b ∧ ∃ ms : List Int, (∃ x2 x3 x4 x5, δ = [some (.ro ns), some (.own (ms.map PyData.int)), x2, x3, x4, x5]) ∧ ms.length + 60 * l.length ≤ 3780 ∧ ∀ n ∈ ms, 0 ≤ n ∧ n < 2000000000) (fun δ b' hI => ?_) (fun x l δ b' K hI hK => ?_) ⟨rfl, [], ⟨_, _, _, _, rfl⟩, by simp; omega, fun n hn => by cases hn⟩
  · obtain ⟨rfl, ms, ⟨x2, x3, x4, x5, rfl⟩, hz, hm⟩ := hI
    by_cases e : ms = []
    · subst e
      simp
      exact ⟨by decide, h [0] ⟨by decide, by decide, fun n hn => by simp at hn; subst hn; exact ⟨by decide, by decide⟩⟩⟩
    · simp [e]
      exact h ms ⟨List.length_pos_iff.2 e, by omega, hm⟩
  · obtain ⟨rfl, ms, ⟨x2, x3, x4, x5, rfl⟩, hz, hm⟩ := hI
    rw [List.length_cons] at hz
    have cp : CPow 10 18 := ⟨by decide, by decide, by decide⟩
    have cd : ∀ x : Int, CDivW x 1009 := fun x => ⟨by decide, by decide⟩
    simp [cp, cd]
    have a0 : 0 ≤ (if x < 0 then -x else x) := by split <;> omega
    by_cases c : 1000000000000000000 ≤ (if x < 0 then -x else x)
    · rw [if_pos c]
      refine ⟨⟨by decide, by decide⟩, ?_⟩
      refine wFor_xs (fun i : Nat => PyData.int (0 + (i : Int))) (fun l2 δ b'' => b'' = b' ∧ ∃ ms2 : List Int, (∃ x4 y, δ = [some (.ro ns), some (.own (ms2.map PyData.int)), some (.val (.int x)), some (.val (.int y)), x4, x5]) ∧ ms2.length + l2.length ≤ ms.length + 60 ∧ ∀ n ∈ ms2, 0 ≤ n ∧ n < 2000000000) (fun δ b'' hI => ?_) (fun i l2 δ b'' K2 hI hK2 => ?_) ⟨rfl, ms, ⟨_, _, rfl⟩, by simp, hm⟩
      · obtain ⟨rfl, ms2, ⟨x4, y, rfl⟩, hz2, hm2⟩ := hI
        exact hK _ _ ⟨rfl, ms2, ⟨_, _, _, _, rfl⟩, by simp at hz2; omega, hm2⟩
      · obtain ⟨rfl, ms2, ⟨x4, y, rfl⟩, hz2, hm2⟩ := hI
        rw [List.length_cons] at hz2
        have hm3 : ∀ n ∈ ms2 ++ [y % 1009], 0 ≤ n ∧ n < 2000000000 := fun n hn => by
          rcases List.mem_append.1 hn with z | z
          · exact hm2 n z
          · simp at z; subst z; exact new
        simp [cd]
        refine ⟨szl' (by omega), ?_⟩
        have em : List.map PyData.int ms2 ++ [PyData.int (y % 1009)] = (ms2 ++ [y % 1009]).map PyData.int := by simp
        rw [em]
        split
        · exact hK _ _ ⟨rfl, _, ⟨_, _, _, _, rfl⟩, by simp; omega, hm3⟩
        · exact hK2 _ _ ⟨rfl, _, ⟨_, _, rfl⟩, by simp; omega, hm3⟩
    · rw [if_neg c]
      refine ⟨⟨by decide, by decide⟩, ?_⟩
      refine wFor_xs (fun i : Nat => PyData.int (0 + (i : Int))) (fun l2 δ b'' => b'' = b' ∧ (∀ i ∈ l2, i < 10) ∧ ∃ ms2 : List Int, (∃ x4 y z, 0 ≤ z ∧ z < 2147483647 ∧ δ = [some (.ro ns), some (.own (ms2.map PyData.int)), some (.val (.int x)), some (.val (.int y)), x4, some (.val (.int z))]) ∧ ms2.length + l2.length ≤ ms.length + 10 ∧ ∀ n ∈ ms2, 0 ≤ n ∧ n < 2000000000) (fun δ b'' hI => ?_) (fun i l2 δ b'' K2 hI hK2 => ?_) ⟨rfl, fun i hi => by simpa using hi, ms, ⟨_, _, _, by omega, by omega, rfl⟩, by simp, hm⟩
      · obtain ⟨rfl, _, ms2, ⟨x4, y, z, _, _, rfl⟩, hz2, hm2⟩ := hI
        exact hK _ _ ⟨rfl, ms2, ⟨_, _, _, _, rfl⟩, by simp at hz2; omega, hm2⟩
      · obtain ⟨rfl, hl2, ms2, ⟨x4, y, z, z0, z1, rfl⟩, hz2, hm2⟩ := hI
        rw [List.length_cons] at hz2
        have i10 := hl2 i List.mem_cons_self
        have q1 : CMulX z 48271 := mulx_ok (a := 32) (b := 16) (by omega) (by decide) (by decide)
        have q2 : CMulX 7 (i : Int) := mulx_ok (a := 3) (b := 4) (by decide) (by omega) (by decide)
        have w0 : 0 ≤ (z * 48271 + 7 * (i : Int) + 11) % 2147483647 := Int.emod_nonneg _ (by decide)
        have w1 : (z * 48271 + 7 * (i : Int) + 11) % 2147483647 < 2147483647 := Int.emod_lt_of_pos _ (by decide)
        have q3 : CMulX ((z * 48271 + 7 * (i : Int) + 11) % 2147483647) 69621 := mulx_ok (a := 32) (b := 17) (by omega) (by decide) (by decide)
        simp [q1, q2, q3]
        refine ⟨szl' (by omega), ?_⟩
        have em : ∀ v : Int, List.map PyData.int ms2 ++ [PyData.int v] = (ms2 ++ [v]).map PyData.int := by simp
        rw [em]
        exact hK2 _ _ ⟨rfl, fun j hj => hl2 j (List.mem_cons_of_mem _ hj), _, ⟨_, _, _, w0, w1, rfl⟩, by simp; omega, fun n hn => by
          rcases List.mem_append.1 hn with q | q
          · exact hm2 n q
          · simp at q; subst q; exact new⟩
theorem run_check_many (cs : List Cell) (b : Nat) (R : Except Er D → Nat → Prop) (h : spec_check_many cs b R) : cs.length = 1 ∧ runB 1 b_check_many cs b R := by
  obtain ⟨m, rfl, h⟩ := h
  refine ⟨rfl, ?_⟩
  unfold checkMany at h
  by_cases h1 : 32 < m
  · simpa [b_check_many, startE, h1] using h
  · by_cases h2 : m < 1
    · simpa [b_check_many, startE, h1, h2] using h
    · simpa [b_check_many, startE, h1, h2] using h
theorem run_check_set (cs : List Cell) (b : Nat) (R : Except Er D → Nat → Prop) (h : spec_check_set cs b R) : cs.length = 2 ∧ runB 2 (b_check_set spec_check_many) cs b R := by
  obtain ⟨m, s, rfl, h⟩ := h
  refine ⟨rfl, ?_⟩
  simp [b_check_set, startE]
  refine ⟨m, rfl, ?_⟩
  unfold checkSet at h
  cases e : checkMany m with
  | error e' => rw [e] at h; exact h
  | ok x =>
    rw [e] at h
    obtain ⟨h1, h2, _⟩ := checkMany_ok e
    have sh : CShl 1 m := shl1 (by omega) (by omega)
    have h' : R (if s < 0 ∨ 2 ^ m.toNat ≤ s then .error .na else .ok .none) b := h
    by_cases c1 : s < 0
    · simpa [c1] using h'
    · by_cases c2 : 2 ^ m.toNat ≤ s
      · simpa [c1, c2, sh] using h'
      · simpa [c1, c2, sh] using h'
/-- the worlds of a set, ascending -/
def bits (n : Nat) (x : Int) : List Int := ((List.range n).filter (ib x)).map fun (w : Nat) => (w : Int)
theorem mem_bits {n : Nat} {x k : Int} : k ∈ bits n x ↔ 0 ≤ k ∧ k < n ∧ ib x k.toNat = true := by
  unfold bits
  rw [List.mem_map]
  constructor
  · rintro ⟨w, hw, rfl⟩
    rw [List.mem_filter, List.mem_range] at hw
    exact ⟨by omega, by omega, by rw [Int.toNat_natCast]; exact hw.2⟩
  · rintro ⟨h0, h1, h2⟩
    exact ⟨k.toNat, List.mem_filter.2 ⟨List.mem_range.2 (by omega), h2⟩, by omega⟩
theorem bits_rise {n : Nat} {x : Int} : (bits n x).Pairwise (· < ·) := by
  unfold bits
  refine List.Pairwise.map _ (fun a b h => ?_) (List.Pairwise.filter _ List.pairwise_lt_range)
  exact Int.ofNat_lt.2 h
theorem bits_len {n : Nat} {x : Int} : (bits n x).length ≤ n := by
  unfold bits
  rw [List.length_map]
  exact Nat.le_trans (List.length_filter_le _ _) (by simp)
theorem bits_more {n w : Nat} {x : Int} (hw : w ≤ n) (h : ∀ i, w ≤ i → ib x i = false) : bits n x = bits w x := by
  refine rise_ext bits_rise bits_rise fun k => ?_
  rw [mem_bits, mem_bits]
  constructor
  · rintro ⟨h0, h1, h2⟩
    refine ⟨h0, ?_, h2⟩
    refine Classical.byContradiction fun z => ?_
    rw [h k.toNat (by omega)] at h2
    cases h2
  · rintro ⟨h0, h1, h2⟩
    exact ⟨h0, by omega, h2⟩
def spec_members : Spec := fun cs b R => ∃ (x : Int) (n : Nat), cs = [.val (.int x)] ∧ 0 ≤ x ∧ x < 2 ^ n ∧ n ≤ 1000 ∧ R (.ok (encI (bits n x))) b
def memI (x : Int) (n : Nat) (b : Nat) : Nat → Env → Nat → Prop := fun m δ b' => b' = b ∧ ∃ w : Nat, δ = [some (.val (.int x)), some (.own ((bits w x).map PyData.int)), some (.val (.int (w : Int)))] ∧ w ≤ n ∧ m = n - w
theorem run_members (cs : List Cell) (b : Nat) (R : Except Er D → Nat → Prop) (h : spec_members cs b R) : cs.length = 1 ∧ runB 3 b_members cs b R := by
  obtain ⟨x, n, rfl, x0, xn, hn, h⟩ := h
  refine ⟨rfl, ?_⟩
  simp_arith [b_members, startE, swhile]
  refine ⟨memI x n b, ⟨_, rfl, 0, rfl, Nat.zero_le _, rfl⟩, ?_⟩
  rintro m δ b' ⟨rfl, w, rfl, wn, rfl⟩
  simp_arith
  have bl := bits_len (n := w) (x := x)
  by_cases c : 0 < x / 2 ^ w
  · have wl : w < n := by
      refine Classical.byContradiction fun z => ?_
      have e : w = n := by omega
      subst e
      rw [Int.ediv_eq_zero_of_lt x0 xn] at c
      omega
    simp [c]
    have e1 : bits (w + 1) x = bits w x ++ if ib x w = true then [(w : Int)] else [] := by
      unfold bits
      rw [List.range_succ, List.filter_append, List.map_append]
      congr 1
      by_cases q : ib x w = true <;> simp [q]
    rw [bit_and]
    by_cases q : ib x w = true
    · rw [if_pos q] at e1
      simp [q, saug]
      refine ⟨szl' (by omega), n - (w + 1), by omega, rfl, w + 1, ?_, by omega, rfl⟩
      rw [e1]
      simp
    · rw [if_neg q, List.append_nil] at e1
      simp [q, saug]
      exact ⟨n - (w + 1), by omega, rfl, w + 1, by rw [e1]; simp, by omega, rfl⟩
  · simp [c]
    have e : bits n x = bits w x := bits_more wn fun i hi => by
      have z : x / 2 ^ w = 0 := by
        have := Int.ediv_nonneg x0 (show (0 : Int) ≤ 2 ^ w from Int.pow_nonneg (by decide))
        omega
      have lt : x < 2 ^ w := by
        refine Classical.byContradiction fun q => ?_
        have := Int.le_ediv_of_mul_le (show (0 : Int) < 2 ^ w from Int.pow_pos (by decide)) (show 1 * 2 ^ w ≤ x by omega)
        omega
      exact ib_lt x0 lt hi
    have h : R (.ok (.tuple ((bits n x).map PyData.int))) b' := h
    rw [e] at h
    exact h
end BB
set_option Elab.async false
set_option linter.all false
set_option maxRecDepth 100000
set_option autoImplicit false
set_option maxHeartbeats 2000000
/-! k59 -/
namespace BB
open PySem PySem.Spec PyProof.Rows L2
local macro_rules | `(tactic| simp_arith [$as,*]) => `(tactic| try simp [$as,*, -e_wbind, -e_wk, -e_wb2, -e_wb1, -e_wtest, -e_wand, -e_wor, -e_wnot, -e_wandV, -e_worV, -e_wnotV, -e_wif, -e_wchain, -e_wop, -e_witems, -e_sseq, -e_slift, -e_sdrop, -e_sret, -e_sif, -e_stry, -e_sapp, -e_sext, -e_runB, -e_sasg, -e_sasgF, -e_sasgT, -e_sfor, -e_wlst, -e_warg, -e_wnil, -e_wcons, -e_wnilC, -e_wconsC, -e_wtup, -e_wlis, -e_wlc, -e_wcall, -e_wsl, -e_wTupRg, -e_wLstRg, -e_wsel, ↓k_wbind, ↓k_wk, ↓k_wb2, ↓k_wb1, ↓k_wtest, ↓k_wand, ↓k_wor, ↓k_wnot, ↓k_wandV, ↓k_worV, ↓k_wnotV, ↓k_wif, ↓k_wchain, ↓k_wop, ↓k_witems, ↓k_sseq, ↓k_slift, ↓k_sdrop, ↓k_sret, ↓k_sif, ↓k_stry, ↓k_sapp, ↓k_sext, ↓k_wlst, ↓k_warg, ↓k_wnil, ↓k_wcons, ↓k_wnilC, ↓k_wconsC, ↓k_wtup, ↓k_wlis, ↓k_wlc, ↓k_wcall, ↓k_wsl, ↓k_wTupRg, ↓k_wLstRg, ↓k_wsel, ↓k_wrep, ↓k_wcat, ↓k_wlc2, ↓k_spop, ↓k_spopAt, ↓k_sdone, ↓k_wdget, ↓k_wdgetX, ↓k_sdput, ↓k_wdin, ↓k_wlenD, ↓k_wdc, ↓k_sasgD, ↓k_wsortD, ↓k_sdnew, ↓k_windex, ↓k_sset2, ↓k_slock, ↓k_wlock, ↓k_wkeysL, ↓k_wdinL, ↓k_sasg, ↓k_sasgF, ↓k_sasgT, ↓k_sfor, ↓k_runB, sizeLine_eq])
local macro_rules | `(tactic| simp_arith) => `(tactic| try simp [-e_wbind, -e_wk, -e_wb2, -e_wb1, -e_wtest, -e_wand, -e_wor, -e_wnot, -e_wandV, -e_worV, -e_wnotV, -e_wif, -e_wchain, -e_wop, -e_witems, -e_sseq, -e_slift, -e_sdrop, -e_sret, -e_sif, -e_stry, -e_sapp, -e_sext, -e_runB, -e_sasg, -e_sasgF, -e_sasgT, -e_sfor, -e_wlst, -e_warg, -e_wnil, -e_wcons, -e_wnilC, -e_wconsC, -e_wtup, -e_wlis, -e_wlc, -e_wcall, -e_wsl, -e_wTupRg, -e_wLstRg, -e_wsel, ↓k_wbind, ↓k_wk, ↓k_wb2, ↓k_wb1, ↓k_wtest, ↓k_wand, ↓k_wor, ↓k_wnot, ↓k_wandV, ↓k_worV, ↓k_wnotV, ↓k_wif, ↓k_wchain, ↓k_wop, ↓k_witems, ↓k_sseq, ↓k_slift, ↓k_sdrop, ↓k_sret, ↓k_sif, ↓k_stry, ↓k_sapp, ↓k_sext, ↓k_wlst, ↓k_warg, ↓k_wnil, ↓k_wcons, ↓k_wnilC, ↓k_wconsC, ↓k_wtup, ↓k_wlis, ↓k_wlc, ↓k_wcall, ↓k_wsl, ↓k_wTupRg, ↓k_wLstRg, ↓k_wsel, ↓k_wrep, ↓k_wcat, ↓k_wlc2, ↓k_spop, ↓k_spopAt, ↓k_sdone, ↓k_wdget, ↓k_wdgetX, ↓k_sdput, ↓k_wdin, ↓k_wlenD, ↓k_wdc, ↓k_sasgD, ↓k_wsortD, ↓k_sdnew, ↓k_windex, ↓k_sset2, ↓k_slock, ↓k_wlock, ↓k_wkeysL, ↓k_wdinL, ↓k_sasg, ↓k_sasgF, ↓k_sasgT, ↓k_sfor, ↓k_runB, sizeLine_eq])
/-! fractions: what the defs do -/
theorem at0P {n d : Int} : atI [PyData.int n, .int d] 0 = some (.int n) := rfl
theorem at1P {n d : Int} : atI [PyData.int n, .int d] 1 = some (.int d) := rfl
theorem gcd_div {n d : Int} (h : 0 < d) {B : Nat} (hB : B ≤ 8000) (hd : d.natAbs < 2 ^ B) : CDivW n ((Nat.gcd n.natAbs d.natAbs : Nat) : Int) := by
  have l : Nat.gcd n.natAbs d.natAbs ≤ d.natAbs := Nat.gcd_le_right _ (by omega)
  have p : 0 < Nat.gcd n.natAbs d.natAbs := Nat.gcd_pos_of_pos_right _ (by omega)
  exact wide_div (b := B + 1) (by omega) (by rw [Int.natAbs_natCast, Nat.pow_succ]; omega) (by omega) (by omega)
theorem gcd_div2 {m n d : Int} (h : 0 < d) {B : Nat} (hB : B ≤ 8000) (hd : d.natAbs < 2 ^ B) : CDivW m ((Nat.gcd n.natAbs d.natAbs : Nat) : Int) := by
  have l : Nat.gcd n.natAbs d.natAbs ≤ d.natAbs := Nat.gcd_le_right _ (by omega)
  have p : 0 < Nat.gcd n.natAbs d.natAbs := Nat.gcd_pos_of_pos_right _ (by omega)
  exact wide_div (b := B + 1) (by omega) (by rw [Int.natAbs_natCast, Nat.pow_succ]; omega) (by omega) (by omega)
theorem natAbs_is {i : Int} : (if i < 0 then -i else i) = (i.natAbs : Int) := by split <;> omega
theorem encR_qt {n d : Int} (h : 0 < d) : encR (qt n d) = .tuple [.int (n / ((Nat.gcd n.natAbs d.natAbs : Nat) : Int)), .int (d / ((Nat.gcd n.natAbs d.natAbs : Nat) : Int))] := by
  unfold encR encP
  rw [qt_num h, qt_den h]
end BB
set_option Elab.async false
set_option linter.all false
set_option maxRecDepth 100000
set_option autoImplicit false
set_option maxHeartbeats 2000000
/-! k59 -/
namespace BB
open PySem PySem.Spec PyProof.Rows L2
local macro_rules | `(tactic| simp_arith [$as,*]) => `(tactic| try simp [$as,*, -e_wbind, -e_wk, -e_wb2, -e_wb1, -e_wtest, -e_wand, -e_wor, -e_wnot, -e_wandV, -e_worV, -e_wnotV, -e_wif, -e_wchain, -e_wop, -e_witems, -e_sseq, -e_slift, -e_sdrop, -e_sret, -e_sif, -e_stry, -e_sapp, -e_sext, -e_runB, -e_sasg, -e_sasgF, -e_sasgT, -e_sfor, -e_wlst, -e_warg, -e_wnil, -e_wcons, -e_wnilC, -e_wconsC, -e_wtup, -e_wlis, -e_wlc, -e_wcall, -e_wsl, -e_wTupRg, -e_wLstRg, -e_wsel, ↓k_wbind, ↓k_wk, ↓k_wb2, ↓k_wb1, ↓k_wtest, ↓k_wand, ↓k_wor, ↓k_wnot, ↓k_wandV, ↓k_worV, ↓k_wnotV, ↓k_wif, ↓k_wchain, ↓k_wop, ↓k_witems, ↓k_sseq, ↓k_slift, ↓k_sdrop, ↓k_sret, ↓k_sif, ↓k_stry, ↓k_sapp, ↓k_sext, ↓k_wlst, ↓k_warg, ↓k_wnil, ↓k_wcons, ↓k_wnilC, ↓k_wconsC, ↓k_wtup, ↓k_wlis, ↓k_wlc, ↓k_wcall, ↓k_wsl, ↓k_wTupRg, ↓k_wLstRg, ↓k_wsel, ↓k_wrep, ↓k_wcat, ↓k_wlc2, ↓k_spop, ↓k_spopAt, ↓k_sdone, ↓k_wdget, ↓k_wdgetX, ↓k_sdput, ↓k_wdin, ↓k_wlenD, ↓k_wdc, ↓k_sasgD, ↓k_wsortD, ↓k_sdnew, ↓k_windex, ↓k_sset2, ↓k_slock, ↓k_wlock, ↓k_wkeysL, ↓k_wdinL, ↓k_sasg, ↓k_sasgF, ↓k_sasgT, ↓k_sfor, ↓k_runB, sizeLine_eq])
local macro_rules | `(tactic| simp_arith) => `(tactic| try simp [-e_wbind, -e_wk, -e_wb2, -e_wb1, -e_wtest, -e_wand, -e_wor, -e_wnot, -e_wandV, -e_worV, -e_wnotV, -e_wif, -e_wchain, -e_wop, -e_witems, -e_sseq, -e_slift, -e_sdrop, -e_sret, -e_sif, -e_stry, -e_sapp, -e_sext, -e_runB, -e_sasg, -e_sasgF, -e_sasgT, -e_sfor, -e_wlst, -e_warg, -e_wnil, -e_wcons, -e_wnilC, -e_wconsC, -e_wtup, -e_wlis, -e_wlc, -e_wcall, -e_wsl, -e_wTupRg, -e_wLstRg, -e_wsel, ↓k_wbind, ↓k_wk, ↓k_wb2, ↓k_wb1, ↓k_wtest, ↓k_wand, ↓k_wor, ↓k_wnot, ↓k_wandV, ↓k_worV, ↓k_wnotV, ↓k_wif, ↓k_wchain, ↓k_wop, ↓k_witems, ↓k_sseq, ↓k_slift, ↓k_sdrop, ↓k_sret, ↓k_sif, ↓k_stry, ↓k_sapp, ↓k_sext, ↓k_wlst, ↓k_warg, ↓k_wnil, ↓k_wcons, ↓k_wnilC, ↓k_wconsC, ↓k_wtup, ↓k_wlis, ↓k_wlc, ↓k_wcall, ↓k_wsl, ↓k_wTupRg, ↓k_wLstRg, ↓k_wsel, ↓k_wrep, ↓k_wcat, ↓k_wlc2, ↓k_spop, ↓k_spopAt, ↓k_sdone, ↓k_wdget, ↓k_wdgetX, ↓k_sdput, ↓k_wdin, ↓k_wlenD, ↓k_wdc, ↓k_sasgD, ↓k_wsortD, ↓k_sdnew, ↓k_windex, ↓k_sset2, ↓k_slock, ↓k_wlock, ↓k_wkeysL, ↓k_wdinL, ↓k_sasg, ↓k_sasgF, ↓k_sasgT, ↓k_sfor, ↓k_runB, sizeLine_eq])
/-! weights: what the defs do -/
theorem bne_f {i j : Int} (h : ¬ i = j) : (i == j) = false := by simpa using h
def spec_check_weights : Spec := fun cs b R => ∃ (m : Int) (ws : List Int), cs = [.val (.int m), .val (encI ws)] ∧ R (chkW m ws) b
theorem run_check_weights (cs : List Cell) (b : Nat) (R : Except Er D → Nat → Prop) (h : spec_check_weights cs b R) : cs.length = 2 ∧ runB 2 (b_check_weights spec_check_many) cs b R := by
  obtain ⟨m, ws, rfl, h⟩ := h
  refine ⟨rfl, ?_⟩
  unfold chkW at h
  simp_arith [b_check_weights, startE, encI]
  refine ⟨m, rfl, ?_⟩
  cases e : checkMany m with
  | error z => rw [e] at h; exact h
  | ok z =>
    rw [e] at h
    have hm := checkMany_ok e
    have h : R (if (ws.length : Int) = m ∧ (∀ x ∈ ws, 0 ≤ x ∧ x ≤ 1000000) ∧ ∃ x ∈ ws, x ≠ 0 then .ok .none else .error .na) b := h
    by_cases l : (ws.length : Int) = m
    · simp_arith [l]
      have lp : 0 < ws.length := by omega
      refine ⟨ws, .inr rfl, lp, fun mn n1 n2 => ?_⟩
      by_cases c : mn < 0
      · rw [if_neg fun z => by have := z.2.1 mn n1; omega] at h
        simp_arith [c]
        exact h
      · simp_arith [c]
        refine ⟨ws, .inr rfl, lp, fun mx x1 x2 => ?_⟩
        by_cases c2 : 1000000 < mx
        · rw [if_neg fun z => by have := z.2.1 mx x1; omega] at h
          simp_arith [c2]
          exact h
        · simp_arith [c2]
          refine ⟨ws, .inr rfl, lp, fun mz z1 z2 => ?_⟩
          by_cases c3 : mz = 0
          · rw [if_neg fun z => by
              obtain ⟨x, hx, nz⟩ := z.2.2
              have := z2 x hx; have := z.2.1 x hx; omega] at h
            simp_arith [c3]
            exact h
          · rw [if_pos ⟨l, fun x hx => by have := n2 x hx; have := x2 x hx; omega, mz, z1, c3⟩] at h
            simp_arith [bne_f c3, c3]
            exact h
    · rw [if_neg fun z => l z.1] at h
      simp_arith [bne_f l, l]
      exact h
def spec_sum_of : Spec := fun cs b R => ∃ (ws : List Int) (one : Int), cs = [.val (encI ws), .val (.int one)] ∧ 0 ≤ one ∧ one < 2 ^ ws.length ∧ ws.length ≤ 1000 ∧ R (.ok (.int (wsum ws one))) b
theorem run_sum_of (cs : List Cell) (b : Nat) (R : Except Er D → Nat → Prop) (h : spec_sum_of cs b R) : cs.length = 2 ∧ runB 3 (b_sum_of spec_members) cs b R := by
  obtain ⟨ws, one, rfl, o0, o1, hl, h⟩ := h
  refine ⟨rfl, ?_⟩
  simp_arith [b_sum_of, startE]
  refine ⟨one, ws.length, rfl, o0, o1, by omega, ?_⟩
  have bl := bits_len (n := ws.length) (x := one)
  simp_arith [encI]
  refine ⟨by omega, wComp_ak PyData.int (fun w => .int (wv ws w.toNat)) (fun w hw Rt hr => ?_) ⟨(bits ws.length one).map fun w => wv ws w.toNat, by rw [List.map_map]; rfl, ?_⟩⟩
  · have hw := mem_bits.1 hw
    simp_arith
    have := atW (ws := ws) (w := w.toNat) (by omega)
    rw [show ((w.toNat : Nat) : Int) = w by omega] at this
    exact ⟨_, this, hr⟩
  · have e : ((bits ws.length one).map fun w => wv ws w.toNat) = ((List.range ws.length).filter (ib one)).map (wv ws) := by
      unfold bits; rw [List.map_map]; exact List.map_congr_left fun w hw => by simp
    rw [e, wsum_filter]
    exact h
def spec__law_weight : Spec := fun cs b R => ∃ (ws : List Int) (one : Int), cs = [.val (encI ws), .val (.int one)] ∧ ws.length ≤ 1000 ∧ R (.ok (.int (wsum ws one))) b
theorem run__law_weight (cs : List Cell) (b : Nat) (R : Except Er D → Nat → Prop) (h : spec__law_weight cs b R) : cs.length = 2 ∧ runB 3 b__law_weight cs b R := by
  obtain ⟨ws, one, rfl, hl, h⟩ := h
  refine ⟨rfl, ?_⟩
  simp_arith [b__law_weight, startE, encI]
  rw [rangeD_nat]
  refine ⟨small_big (by omega) (by omega), by simp; omega, ?_⟩
  refine wComp_xk (fun (i : Nat) => PyData.int (0 + (i : Int))) (ib one) (fun w => .int (wv ws w)) (fun w hw Rf Rt h1 h2 => ?_) ⟨((List.range ws.length).filter (ib one)).map (wv ws), by rw [List.map_map]; rfl, ?_⟩
  · have hw := List.mem_range.1 hw
    simp_arith [bit_ne]
    by_cases q : ib one w = true
    · simp_arith [q]
      exact ⟨_, atW hw, h2 q⟩
    · have q' : ib one w = false := by simpa using q
      simp_arith [q']
      exact h1 q'
  · rw [wsum_filter]; exact h
end BB
set_option Elab.async false
set_option linter.all false
set_option maxRecDepth 100000
set_option autoImplicit false
set_option maxHeartbeats 2000000
/-! k59 -/
namespace BB
open PySem PySem.Spec PyProof.Rows L2
local macro_rules | `(tactic| simp_arith [$as,*]) => `(tactic| try simp [$as,*, -e_wbind, -e_wk, -e_wb2, -e_wb1, -e_wtest, -e_wand, -e_wor, -e_wnot, -e_wandV, -e_worV, -e_wnotV, -e_wif, -e_wchain, -e_wop, -e_witems, -e_sseq, -e_slift, -e_sdrop, -e_sret, -e_sif, -e_stry, -e_sapp, -e_sext, -e_runB, -e_sasg, -e_sasgF, -e_sasgT, -e_sfor, -e_wlst, -e_warg, -e_wnil, -e_wcons, -e_wnilC, -e_wconsC, -e_wtup, -e_wlis, -e_wlc, -e_wcall, -e_wsl, -e_wTupRg, -e_wLstRg, -e_wsel, ↓k_wbind, ↓k_wk, ↓k_wb2, ↓k_wb1, ↓k_wtest, ↓k_wand, ↓k_wor, ↓k_wnot, ↓k_wandV, ↓k_worV, ↓k_wnotV, ↓k_wif, ↓k_wchain, ↓k_wop, ↓k_witems, ↓k_sseq, ↓k_slift, ↓k_sdrop, ↓k_sret, ↓k_sif, ↓k_stry, ↓k_sapp, ↓k_sext, ↓k_wlst, ↓k_warg, ↓k_wnil, ↓k_wcons, ↓k_wnilC, ↓k_wconsC, ↓k_wtup, ↓k_wlis, ↓k_wlc, ↓k_wcall, ↓k_wsl, ↓k_wTupRg, ↓k_wLstRg, ↓k_wsel, ↓k_wrep, ↓k_wcat, ↓k_wlc2, ↓k_spop, ↓k_spopAt, ↓k_sdone, ↓k_wdget, ↓k_wdgetX, ↓k_sdput, ↓k_wdin, ↓k_wlenD, ↓k_wdc, ↓k_sasgD, ↓k_wsortD, ↓k_sdnew, ↓k_windex, ↓k_sset2, ↓k_slock, ↓k_wlock, ↓k_wkeysL, ↓k_wdinL, ↓k_sasg, ↓k_sasgF, ↓k_sasgT, ↓k_sfor, ↓k_runB, sizeLine_eq])
local macro_rules | `(tactic| simp_arith) => `(tactic| try simp [-e_wbind, -e_wk, -e_wb2, -e_wb1, -e_wtest, -e_wand, -e_wor, -e_wnot, -e_wandV, -e_worV, -e_wnotV, -e_wif, -e_wchain, -e_wop, -e_witems, -e_sseq, -e_slift, -e_sdrop, -e_sret, -e_sif, -e_stry, -e_sapp, -e_sext, -e_runB, -e_sasg, -e_sasgF, -e_sasgT, -e_sfor, -e_wlst, -e_warg, -e_wnil, -e_wcons, -e_wnilC, -e_wconsC, -e_wtup, -e_wlis, -e_wlc, -e_wcall, -e_wsl, -e_wTupRg, -e_wLstRg, -e_wsel, ↓k_wbind, ↓k_wk, ↓k_wb2, ↓k_wb1, ↓k_wtest, ↓k_wand, ↓k_wor, ↓k_wnot, ↓k_wandV, ↓k_worV, ↓k_wnotV, ↓k_wif, ↓k_wchain, ↓k_wop, ↓k_witems, ↓k_sseq, ↓k_slift, ↓k_sdrop, ↓k_sret, ↓k_sif, ↓k_stry, ↓k_sapp, ↓k_sext, ↓k_wlst, ↓k_warg, ↓k_wnil, ↓k_wcons, ↓k_wnilC, ↓k_wconsC, ↓k_wtup, ↓k_wlis, ↓k_wlc, ↓k_wcall, ↓k_wsl, ↓k_wTupRg, ↓k_wLstRg, ↓k_wsel, ↓k_wrep, ↓k_wcat, ↓k_wlc2, ↓k_spop, ↓k_spopAt, ↓k_sdone, ↓k_wdget, ↓k_wdgetX, ↓k_sdput, ↓k_wdin, ↓k_wlenD, ↓k_wdc, ↓k_sasgD, ↓k_wsortD, ↓k_sdnew, ↓k_windex, ↓k_sset2, ↓k_slock, ↓k_wlock, ↓k_wkeysL, ↓k_wdinL, ↓k_sasg, ↓k_sasgF, ↓k_sasgT, ↓k_sfor, ↓k_runB, sizeLine_eq])
theorem encB {m : Nat} {x : Int} : encI (bits m x) = .tuple (encN ((List.range m).filter (ib x))) := by
  unfold encI encN bits; rw [List.map_map]; rfl
theorem rangeD_from {lo n : Nat} : rangeD (lo : Int) (n : Int) = (List.range (n - lo)).map fun (i : Nat) => PyData.int ((lo : Int) + (i : Int)) := by
  unfold rangeD
  rw [show ((n : Int) - (lo : Int)).toNat = n - lo by omega]
def chkR (m : Int) (rs : List Int) : Except Er D := (checkMany m).bind fun _ => if (rs.length : Int) = m ∧ (∀ x ∈ rs, 0 ≤ x ∧ x ≤ 1000) ∧ (0 : Int) ∈ rs then .ok .none else .error .na
structure Rks (m : Nat) (rs : List Int) : Prop where
  m1 : 1 ≤ m
  m2 : m ≤ 32
  len : rs.length = m
  rg : ∀ x ∈ rs, 0 ≤ x ∧ x ≤ 1000
  z : (0 : Int) ∈ rs
theorem chkR_ok {m : Int} {rs : List Int} {y : D} (h : chkR m rs = .ok y) : 0 ≤ m ∧ Rks m.toNat rs ∧ y = .none := by
  unfold chkR at h
  cases e : checkMany m with
  | error z => rw [e] at h; cases h
  | ok z =>
    rw [e] at h
    have h : (if (rs.length : Int) = m ∧ (∀ x ∈ rs, 0 ≤ x ∧ x ≤ 1000) ∧ (0 : Int) ∈ rs then Except.ok PyData.none else Except.error Er.na) = Except.ok y := h
    obtain ⟨a, b, _⟩ := checkMany_ok e
    split at h
    · rename_i c
      cases h
      exact ⟨by omega, ⟨by omega, by omega, by omega, c.2.1, c.2.2⟩, rfl⟩
    · cases h
theorem Rks.is {m : Nat} {rs : List Int} (h : Rks m rs) : chkR (m : Int) rs = .ok .none := by
  unfold chkR
  rw [checkMany_is (by have := h.m1; have := h.m2; omega)]
  show (if (rs.length : Int) = m ∧ (∀ x ∈ rs, 0 ≤ x ∧ x ≤ 1000) ∧ (0 : Int) ∈ rs then _ else _) = _
  rw [if_pos ⟨by rw [h.len], h.rg, h.z⟩]
theorem chkR_no {m : Int} {rs : List Int} (hm : 1 ≤ m ∧ m ≤ 32) (h : ¬ ((rs.length : Int) = m ∧ (∀ x ∈ rs, 0 ≤ x ∧ x ≤ 1000) ∧ (0 : Int) ∈ rs)) : chkR m rs = .error .na := by
  unfold chkR
  rw [checkMany_is hm]
  show (if (rs.length : Int) = m ∧ (∀ x ∈ rs, 0 ≤ x ∧ x ≤ 1000) ∧ (0 : Int) ∈ rs then _ else _) = _
  rw [if_neg h]
def spec_check_ranks : Spec := fun cs b R => ∃ (m : Int) (rs : List Int), cs = [.val (.int m), .val (encI rs)] ∧ R (chkR m rs) b
theorem run_check_ranks (cs : List Cell) (b : Nat) (R : Except Er D → Nat → Prop) (h : spec_check_ranks cs b R) : cs.length = 2 ∧ runB 2 (b_check_ranks spec_check_many) cs b R := by
  obtain ⟨m, ws, rfl, h⟩ := h
  refine ⟨rfl, ?_⟩
  unfold chkR at h
  simp_arith [b_check_ranks, startE, encI]
  refine ⟨m, rfl, ?_⟩
  cases e : checkMany m with
  | error z => rw [e] at h; exact h
  | ok z =>
    rw [e] at h
    have hm := checkMany_ok e
    have h : R (if (ws.length : Int) = m ∧ (∀ x ∈ ws, 0 ≤ x ∧ x ≤ 1000) ∧ (0 : Int) ∈ ws then .ok .none else .error .na) b := h
    by_cases l : (ws.length : Int) = m
    · simp_arith [l]
      have lp : 0 < ws.length := by omega
      refine ⟨ws, .inr rfl, lp, fun mn n1 n2 => ?_⟩
      by_cases c : mn = 0
      · subst c
        simp_arith
        refine ⟨ws, .inr rfl, lp, fun mx x1 x2 => ?_⟩
        by_cases c2 : 1000 < mx
        · rw [if_neg fun z => by have := z.2.1 mx x1; omega] at h
          simp_arith [c2]
          exact h
        · rw [if_pos ⟨l, fun x hx => by have := n2 x hx; have := x2 x hx; omega, n1⟩] at h
          simp_arith [c2]
          exact h
      · rw [if_neg fun z => by
          have := n2 0 z.2.2
          have := z.2.1 mn n1
          omega] at h
        simp_arith [bne_f c, c]
        exact h
    · rw [if_neg fun z => l z.1] at h
      simp_arith [bne_f l, l]
      exact h
theorem sum_filtN {m : Nat} {p : Nat → Bool} : (((List.range m).filter p).map fun (w : Nat) => (2 : Int) ^ w).sum = setOf m p := rfl
theorem lowS_min {m : Nat} {rs : List Int} {one mn : Int} (h1 : ∃ w, w < m ∧ ib one w = true ∧ wv rs w = mn) (h2 : ∀ w, w < m → ib one w = true → mn ≤ wv rs w) : setOf m (fun w => ib one w && decide (wv rs w = mn)) = lowS m rs one := ib_ext fun i => by
  have e : ib (setOf m fun w => ib one w && decide (wv rs w = mn)) i = true ↔ ib (lowS m rs one) i = true := by
    rw [ib_setOf, Bool.and_eq_true, Bool.and_eq_true, decide_eq_true_iff, decide_eq_true_iff, ib_lowS]
    obtain ⟨w, hw, ow, ew⟩ := h1
    constructor
    · rintro ⟨a, b, c⟩
      exact ⟨a, b, fun u hu ou => by have := h2 u hu ou; omega⟩
    · rintro ⟨a, b, c⟩
      have := c w hw ow
      have := h2 i a b
      exact ⟨a, b, by omega⟩
  cases q : ib (lowS m rs one) i with
  | true => exact e.2 q
  | false =>
    cases z : ib (setOf m fun w => ib one w && decide (wv rs w = mn)) i with
    | true => rw [e.1 z] at q; cases q
    | false => rfl
theorem lowS_none {m : Nat} {rs : List Int} {one : Int} (h : (List.range m).filter (ib one) = []) : lowS m rs one = 0 := by
  rw [zero_iff]
  intro i
  cases z : ib (lowS m rs one) i with
  | false => rfl
  | true =>
    obtain ⟨a, b, _⟩ := ib_lowS.1 z
    have : i ∈ (List.range m).filter (ib one) := List.mem_filter.2 ⟨List.mem_range.2 a, b⟩
    rw [h] at this; cases this
def spec_least_of : Spec := fun cs b R => ∃ (m : Nat) (rs : List Int) (one : Int), cs = [.val (encI rs), .val (.int one)] ∧ rs.length = m ∧ m ≤ 32 ∧ 0 ≤ one ∧ one < 2 ^ m ∧ R (.ok (.int (lowS m rs one))) b
theorem run_least_of (cs : List Cell) (b : Nat) (R : Except Er D → Nat → Prop) (h : spec_least_of cs b R) : cs.length = 2 ∧ runB 5 (b_least_of spec_members) cs b R := by
  obtain ⟨m, rs, one, rfl, hl, m2, o0, o1, h⟩ := h
  refine ⟨rfl, ?_⟩
  simp_arith [b_least_of, startE]
  refine ⟨one, m, rfl, o0, o1, by omega, ?_⟩
  rw [encB]
  have el : ∀ w ∈ (List.range m).filter (ib one), w < m ∧ ib one w = true := fun w hw => by rw [List.mem_filter, List.mem_range] at hw; exact hw
  have ln : ((List.range m).filter (ib one)).length ≤ m := Nat.le_trans (List.length_filter_le _ _) (by simp)
  by_cases c : (List.range m).filter (ib one) = []
  · rw [lowS_none c] at h
    rw [c]
    simp_arith [encN]
    exact h
  · have cz : (((List.range m).filter (ib one)).length : Int) ≠ 0 := fun z => c (List.length_eq_zero_iff.1 (by omega))
    have key : ∀ mn : Int, (∃ w ∈ (List.range m).filter (ib one), wv rs w = mn) → (∀ w ∈ (List.range m).filter (ib one), mn ≤ wv rs w) → (((((List.range m).filter (ib one)).filter fun w => decide (wv rs w = mn)).map fun (w : Nat) => (2 : Int) ^ w).sum = lowS m rs one) := fun mn h1 h2 => by
      rw [List.filter_filter, ← lowS_min (mn := mn) (by obtain ⟨w, hw, e⟩ := h1; exact ⟨w, (el w hw).1, (el w hw).2, e⟩) (fun w hw ow => h2 w (List.mem_filter.2 ⟨List.mem_range.2 hw, ow⟩))]
      unfold setOf
      congr 2
      congr 1
      funext w
      rw [Bool.and_comm]
    generalize (List.range m).filter (ib one) = M at c cz el ln key ⊢
    have cb : ((M.length : Int) == 0) = false := by simpa using cz
    simp_arith [encN, cb, c]
    refine ⟨by omega, wComp_ak (fun (a : Nat) => PyData.int (a : Int)) (fun w => .int (wv rs w)) (fun w hw Rt hr => ?_) ?_⟩
    · simp_arith [encI]
      exact ⟨_, atW (by have := (el w hw).1; omega), hr⟩
    refine ⟨M.map (wv rs), by rw [List.map_map]; rfl, by rw [List.length_map]; exact List.length_pos_iff.2 c, fun mn n1 n2 => ?_⟩
    simp_arith
    refine ⟨by omega, wComp_xk (fun (a : Nat) => PyData.int (a : Int)) (fun w => decide (wv rs w = mn)) (fun w => .int (2 ^ w)) (fun w hw Rf Rt h1 h2 => ?_) ?_⟩
    · have wl := (el w hw).1
      simp_arith [encI]
      refine ⟨_, atW (by omega), ?_⟩
      simp_arith
      by_cases e : wv rs w = mn
      · simp_arith [e, shl1 (m := (w : Int)) (by omega) (by omega)]
        exact h2 (decide_eq_true e)
      · have eb : (wv rs w == mn) = false := by simpa using e
        simp_arith [eb]
        exact h1 (decide_eq_false e)
    · simp_arith
      refine ⟨(M.filter fun w => decide (wv rs w = mn)).map fun (w : Nat) => (2 : Int) ^ w, by rw [List.map_map]; rfl, ?_⟩
      rw [key mn (by obtain ⟨w, hw, e⟩ := List.mem_map.1 n1; exact ⟨w, hw, e⟩) (fun w hw => n2 _ (List.mem_map_of_mem hw))]
      exact h
end BB
set_option Elab.async false
set_option linter.all false
set_option maxRecDepth 100000
set_option autoImplicit false
set_option maxHeartbeats 2000000
/-! k59 -/
namespace BB
open PySem PySem.Spec PyProof.Rows L2
local macro_rules | `(tactic| simp_arith [$as,*]) => `(tactic| try simp [$as,*, -e_wbind, -e_wk, -e_wb2, -e_wb1, -e_wtest, -e_wand, -e_wor, -e_wnot, -e_wandV, -e_worV, -e_wnotV, -e_wif, -e_wchain, -e_wop, -e_witems, -e_sseq, -e_slift, -e_sdrop, -e_sret, -e_sif, -e_stry, -e_sapp, -e_sext, -e_runB, -e_sasg, -e_sasgF, -e_sasgT, -e_sfor, -e_wlst, -e_warg, -e_wnil, -e_wcons, -e_wnilC, -e_wconsC, -e_wtup, -e_wlis, -e_wlc, -e_wcall, -e_wsl, -e_wTupRg, -e_wLstRg, -e_wsel, ↓k_wbind, ↓k_wk, ↓k_wb2, ↓k_wb1, ↓k_wtest, ↓k_wand, ↓k_wor, ↓k_wnot, ↓k_wandV, ↓k_worV, ↓k_wnotV, ↓k_wif, ↓k_wchain, ↓k_wop, ↓k_witems, ↓k_sseq, ↓k_slift, ↓k_sdrop, ↓k_sret, ↓k_sif, ↓k_stry, ↓k_sapp, ↓k_sext, ↓k_wlst, ↓k_warg, ↓k_wnil, ↓k_wcons, ↓k_wnilC, ↓k_wconsC, ↓k_wtup, ↓k_wlis, ↓k_wlc, ↓k_wcall, ↓k_wsl, ↓k_wTupRg, ↓k_wLstRg, ↓k_wsel, ↓k_wrep, ↓k_wcat, ↓k_wlc2, ↓k_spop, ↓k_spopAt, ↓k_sdone, ↓k_wdget, ↓k_wdgetX, ↓k_sdput, ↓k_wdin, ↓k_wlenD, ↓k_wdc, ↓k_sasgD, ↓k_wsortD, ↓k_sdnew, ↓k_windex, ↓k_sset2, ↓k_slock, ↓k_wlock, ↓k_wkeysL, ↓k_wdinL, ↓k_sasg, ↓k_sasgF, ↓k_sasgT, ↓k_sfor, ↓k_runB, sizeLine_eq])
local macro_rules | `(tactic| simp_arith) => `(tactic| try simp [-e_wbind, -e_wk, -e_wb2, -e_wb1, -e_wtest, -e_wand, -e_wor, -e_wnot, -e_wandV, -e_worV, -e_wnotV, -e_wif, -e_wchain, -e_wop, -e_witems, -e_sseq, -e_slift, -e_sdrop, -e_sret, -e_sif, -e_stry, -e_sapp, -e_sext, -e_runB, -e_sasg, -e_sasgF, -e_sasgT, -e_sfor, -e_wlst, -e_warg, -e_wnil, -e_wcons, -e_wnilC, -e_wconsC, -e_wtup, -e_wlis, -e_wlc, -e_wcall, -e_wsl, -e_wTupRg, -e_wLstRg, -e_wsel, ↓k_wbind, ↓k_wk, ↓k_wb2, ↓k_wb1, ↓k_wtest, ↓k_wand, ↓k_wor, ↓k_wnot, ↓k_wandV, ↓k_worV, ↓k_wnotV, ↓k_wif, ↓k_wchain, ↓k_wop, ↓k_witems, ↓k_sseq, ↓k_slift, ↓k_sdrop, ↓k_sret, ↓k_sif, ↓k_stry, ↓k_sapp, ↓k_sext, ↓k_wlst, ↓k_warg, ↓k_wnil, ↓k_wcons, ↓k_wnilC, ↓k_wconsC, ↓k_wtup, ↓k_wlis, ↓k_wlc, ↓k_wcall, ↓k_wsl, ↓k_wTupRg, ↓k_wLstRg, ↓k_wsel, ↓k_wrep, ↓k_wcat, ↓k_wlc2, ↓k_spop, ↓k_spopAt, ↓k_sdone, ↓k_wdget, ↓k_wdgetX, ↓k_sdput, ↓k_wdin, ↓k_wlenD, ↓k_wdc, ↓k_sasgD, ↓k_wsortD, ↓k_sdnew, ↓k_windex, ↓k_sset2, ↓k_slock, ↓k_wlock, ↓k_wkeysL, ↓k_wdinL, ↓k_sasg, ↓k_sasgF, ↓k_sasgT, ↓k_sfor, ↓k_runB, sizeLine_eq])
def accE (m : Int) (ws : List Int) (one other : Int) : Except Er D := (chkW m ws).bind fun _ => (checkSet m one).bind fun _ => (checkSet m other).bind fun _ => .ok (.bool (decide (wsum ws (Builtin.bitAnd other (Builtin.bitNot one)) < wsum ws (Builtin.bitAnd other one))))
def spec_accepts : Spec := fun cs b R => ∃ (m : Int) (ws : List Int) (one other : Int), cs = [.val (.int m), .val (encI ws), .val (.int one), .val (.int other)] ∧ R (accE m ws one other) b
theorem run_accepts (cs : List Cell) (b : Nat) (R : Except Er D → Nat → Prop) (h : spec_accepts cs b R) : cs.length = 4 ∧ runB 4 (b_accepts spec_check_weights spec_check_set spec_sum_of) cs b R := by
  obtain ⟨m, ws, one, other, rfl, h⟩ := h
  refine ⟨rfl, ?_⟩
  unfold accE at h
  simp_arith [b_accepts, startE]
  refine ⟨m, ws, rfl, ?_⟩
  cases e : chkW m ws with
  | error z => rw [e] at h; exact h
  | ok z =>
    rw [e] at h
    obtain ⟨m0, W, _⟩ := chkW_ok e
    simp_arith
    refine ⟨m, one, rfl, ?_⟩
    have h : R ((checkSet m one).bind fun _ => (checkSet m other).bind fun _ => .ok (.bool (decide (wsum ws (Builtin.bitAnd other (Builtin.bitNot one)) < wsum ws (Builtin.bitAnd other one))))) b := h
    cases e2 : checkSet m one with
    | error z => rw [e2] at h; exact h
    | ok z =>
      rw [e2] at h
      simp_arith
      refine ⟨m, other, rfl, ?_⟩
      have h : R ((checkSet m other).bind fun _ => .ok (.bool (decide (wsum ws (Builtin.bitAnd other (Builtin.bitNot one)) < wsum ws (Builtin.bitAnd other one))))) b := h
      cases e3 : checkSet m other with
      | error z => rw [e3] at h; exact h
      | ok z =>
        rw [e3] at h
        have h : R (.ok (.bool (decide (wsum ws (Builtin.bitAnd other (Builtin.bitNot one)) < wsum ws (Builtin.bitAnd other one))))) b := h
        obtain ⟨_, o0, o1, _⟩ := checkSet_ok e3
        have hl := W.len
        have := W.m2
        have r1 := and_range (y := one) ⟨o0, o1⟩
        have r2 := and_range (y := Builtin.bitNot one) ⟨o0, o1⟩
        simp_arith
        refine ⟨ws, _, rfl, r1.1, by rw [hl]; exact r1.2, by omega, ?_⟩
        simp_arith
        refine ⟨ws, _, rfl, r2.1, by rw [hl]; exact r2.2, by omega, ?_⟩
        simp_arith
        exact h
/-- the positive weights in order: any list that is so -/
def bigE (m : Int) (ws : List Int) (row : List Int) : Except Er D := (chkW m ws).bind fun _ => .ok (.bool (stepB 0 row))
theorem step_same {ws row row2 : List Int} (h : RowOf ws row) (h2 : RowOf ws row2) : row = row2 := by
  have p : row.Perm row2 := h.perm.trans h2.perm.symm
  exact p.eq_of_pairwise (fun a b _ _ h1 h2 => by omega) h.ord h2.ord
def insS (x : Int) : List Int → List Int
  | [] => [x]
  | y :: l => if x ≤ y then x :: y :: l else y :: insS x l
def srtI : List Int → List Int
  | [] => []
  | x :: l => insS x (srtI l)
theorem insS_perm {x : Int} : ∀ {l : List Int}, (insS x l).Perm (x :: l)
  | [] => List.Perm.refl _
  | y :: l => by
    unfold insS
    split
    · exact List.Perm.refl _
    · exact ((insS_perm (l := l)).cons y).trans (List.Perm.swap x y l)
theorem insS_ord {x : Int} : ∀ {l : List Int}, l.Pairwise (· ≤ ·) → (insS x l).Pairwise (· ≤ ·)
  | [], _ => by simp [insS]
  | y :: l, h => by
    obtain ⟨h1, h2⟩ := List.pairwise_cons.1 h
    unfold insS
    split
    · rename_i c
      exact List.pairwise_cons.2 ⟨fun z hz => by
        rcases List.mem_cons.1 hz with rfl | hz
        · exact c
        · have := h1 z hz; omega, h⟩
    · rename_i c
      exact List.pairwise_cons.2 ⟨fun z hz => by
        rcases List.mem_cons.1 (insS_perm.mem_iff.1 hz) with rfl | hz
        · omega
        · exact h1 z hz, insS_ord h2⟩
theorem srt_perm : ∀ {l : List Int}, (srtI l).Perm l
  | [] => List.Perm.refl _
  | x :: l => insS_perm.trans (srt_perm.cons x)
theorem srt_ord : ∀ {l : List Int}, (srtI l).Pairwise (· ≤ ·)
  | [] => List.Pairwise.nil
  | x :: l => insS_ord srt_ord
/-- THE row -/
def rowW (ws : List Int) : List Int := srtI (ws.filter fun x => decide (0 < x))
theorem rowW_of {ws : List Int} : RowOf ws (rowW ws) := ⟨srt_perm, srt_ord⟩
theorem rowW_len {ws : List Int} : (rowW ws).length ≤ ws.length := by
  unfold rowW
  rw [srt_perm.length_eq]
  exact List.length_filter_le _ _
theorem srt_is {l l2 : List Int} (p : l2.Perm l) (o : l2.Pairwise (· ≤ ·)) : l2 = srtI l := (p.trans srt_perm.symm).eq_of_pairwise (fun a b _ _ h1 h2 => by omega) o srt_ord
def bigsE (m : Int) (ws : List Int) : Except Er D := (chkW m ws).bind fun _ => .ok (.bool (stepB 0 (rowW ws)))
def spec_has_big_steps : Spec := fun cs b R => ∃ (m : Int) (ws : List Int), cs = [.val (.int m), .val (encI ws)] ∧ R (bigsE m ws) b
theorem run_has_big_steps (cs : List Cell) (b : Nat) (R : Except Er D → Nat → Prop) (h : spec_has_big_steps cs b R) : cs.length = 2 ∧ runB 5 (b_has_big_steps spec_check_weights) cs b R := by
  obtain ⟨m, ws, rfl, h⟩ := h
  refine ⟨rfl, ?_⟩
  unfold bigsE at h
  simp_arith [b_has_big_steps, startE]
  refine ⟨m, ws, rfl, ?_⟩
  cases e : chkW m ws with
  | error z => rw [e] at h; exact h
  | ok z =>
    rw [e] at h
    have h : R (.ok (.bool (stepB 0 (rowW ws)))) b := h
    obtain ⟨m0, W, _⟩ := chkW_ok e
    have hl := W.len
    have := W.m2
    simp_arith [encI]
    refine ⟨by omega, wComp_xk PyData.int (fun x => decide (0 < x)) PyData.int (fun x hx Rf Rt h1 h2 => ?_) ?_⟩
    · by_cases c : 0 < x
      · simp_arith [c]; exact h2 (decide_eq_true c)
      · simp_arith [c]; exact h1 (decide_eq_false c)
    refine ⟨ws.filter fun x => decide (0 < x), rfl, fun ns' p o => ?_⟩
    have e2 : ns' = rowW ws := srt_is p o
    subst e2
    have rl := rowW_len (ws := ws)
    generalize rowW ws = row at h rl ⊢
    simp_arith
    refine wFor_xk PyData.int (fun (l : List Int) δ b' => b' = b ∧ ∃ (t : Int) (x3 : Option Cell), stepB t l = stepB 0 row ∧ δ = [some (.val (.int m)), some (.val (.tuple (ws.map PyData.int))), some (.val (.list (row.map PyData.int))), x3, some (.val (.int t))]) ?_ ?_ ⟨rfl, 0, none, rfl, rfl⟩
    · rintro δ b' ⟨rfl, t, x3, e3, rfl⟩
      have e3 : true = stepB 0 row := e3
      rw [← e3] at h
      simp_arith
      exact h
    · rintro x l δ b' K ⟨rfl, t, x3, e3, rfl⟩ hK
      have e3 : (decide (t < x) && stepB (t + x) l) = stepB 0 row := e3
      by_cases c : x ≤ t
      · rw [decide_eq_false (show ¬ t < x by omega), Bool.false_and] at e3
        rw [← e3] at h
        simp_arith [c]
        exact h
      · rw [decide_eq_true (show t < x by omega), Bool.true_and] at e3
        simp_arith [c, saug]
        exact hK _ _ ⟨rfl, t + x, _, e3, rfl⟩
def spec_closes_under : Spec := fun cs b R => ∃ (ws : List Int) (other : Int), cs = [.val (encI ws), .val (.int other)] ∧ 0 ≤ other ∧ other < 2 ^ ws.length ∧ ws.length ≤ 32 ∧ (∀ x ∈ ws, 0 ≤ x ∧ x ≤ 1000000) ∧ R (.ok (.bool (clos ws other))) b
theorem mul2 {x : Int} (h : 0 ≤ x ∧ x ≤ 32000000) : CMulX 2 x := mulx_ok (a := 3) (b := 26) (by decide) (by omega) (by decide)
theorem wsum_0 {ws : List Int} (rg : ∀ x ∈ ws, 0 ≤ x ∧ x ≤ 1000000) {x : Int} : 0 ≤ wsum ws x := by
  have := wsum_le rg (x := 0) (y := x) fun w _ z => by rw [ib_0] at z; cases z
  rwa [wsum_zero] at this
theorem wsum_32 {ws : List Int} (l32 : ws.length ≤ 32) (rg : ∀ x ∈ ws, 0 ≤ x ∧ x ≤ 1000000) {x : Int} : wsum ws x ≤ 32000000 := by
  unfold wsum
  have := sumN_le (n := ws.length) (g := fun _ => 1000000) (f := fun w => if ib x w = true then wv ws w else 0) fun w hw => by
    have := wv_rg rg w
    show (if ib x w = true then wv ws w else 0) ≤ 1000000
    split <;> omega
  rw [sumN_const] at this
  omega
theorem run_closes_under (cs : List Cell) (b : Nat) (R : Except Er D → Nat → Prop) (h : spec_closes_under cs b R) : cs.length = 2 ∧ runB 4 (b_closes_under spec_sum_of spec_members) cs b R := by
  obtain ⟨ws, other, rfl, o0, o1, l32, rg, h⟩ := h
  refine ⟨rfl, ?_⟩
  simp_arith [b_closes_under, startE]
  refine ⟨ws, other, rfl, o0, o1, by omega, ?_⟩
  simp_arith
  refine ⟨other, ws.length, rfl, o0, o1, by omega, ?_⟩
  rw [encB]
  have ln : ((List.range ws.length).filter (ib other)).length ≤ ws.length := Nat.le_trans (List.length_filter_le _ _) (by simp)
  simp_arith [encN]
  refine ⟨by omega, wComp_xk (fun (a : Nat) => PyData.int (a : Int)) (fun w => decide (wsum ws other ≤ 2 * wv ws w)) (fun w => .int (wv ws w)) (fun w hw Rf Rt h1 h2 => ?_) ?_⟩
  · rw [List.mem_filter, List.mem_range] at hw
    have wr := wv_rg rg w
    simp_arith [encI]
    refine ⟨_, atW hw.1, ?_⟩
    simp_arith [mul2 (x := wv ws w) (by omega)]
    by_cases c : wsum ws other ≤ 2 * wv ws w
    · simp_arith [c]
      exact ⟨_, atW hw.1, h2 (decide_eq_true c)⟩
    · simp_arith [c]
      exact h1 (decide_eq_false c)
  · simp_arith
    refine ⟨((List.range ws.length).filter fun a => decide (wsum ws other ≤ 2 * wv ws a) && ib other a).map (wv ws), by rw [List.map_map]; rfl, ?_⟩
    have es : ((((List.range ws.length).filter fun a => decide (wsum ws other ≤ 2 * wv ws a) && ib other a).map (wv ws)).sum) = sumN ws.length fun w => if (ib other w && decide (wsum ws other ≤ 2 * wv ws w)) = true then wv ws w else 0 := by
      rw [sumN_filter]
      exact sumN_congr fun w _ => by rw [Bool.and_comm]
    rw [es]
    have sr := clos_sum (other := other) rg
    rw [sr]
    unfold clos at h
    rw [sr] at h
    have le : wsum ws (setOf ws.length fun w => ib other w && decide (wsum ws other ≤ 2 * wv ws w)) ≤ 32000000 := wsum_32 l32 rg
    have ge : 0 ≤ wsum ws (setOf ws.length fun w => ib other w && decide (wsum ws other ≤ 2 * wv ws w)) := wsum_0 rg
    generalize wsum ws (setOf ws.length fun w => ib other w && decide (wsum ws other ≤ 2 * wv ws w)) = Z at h le ge ⊢
    simp_arith [mul2 (x := Z) ⟨ge, le⟩]
    exact h
def closB (m : Nat) (ws : List Int) : Bool := ((List.range (2 ^ m - 1)).filter fun (i : Nat) => decide (0 < wsum ws (1 + (i : Int)))).all fun (i : Nat) => clos ws (1 + (i : Int))
def closE (m : Int) (ws : List Int) : Except Er D := (chkW m ws).bind fun _ => if 6 < m then .error .tl else .ok (.bool (closB m.toNat ws))
theorem pow6 {m : Nat} (h : m ≤ 6) : 1 ≤ 2 ^ m ∧ 2 ^ m ≤ 64 := ⟨Nat.pow_pos (by decide), Nat.le_trans (Nat.pow_le_pow_right (by decide) h) (by decide)⟩
theorem rangeD_one {n : Nat} : rangeD 1 ((2 : Int) ^ n) = (List.range (2 ^ n - 1)).map fun (i : Nat) => PyData.int (1 + (i : Int)) := by
  have := rangeD_from (lo := 1) (n := 2 ^ n)
  rw [pow_cast]; exact this
theorem oth {m i : Nat} (h : i < 2 ^ m - 1) : (0 : Int) ≤ 1 + (i : Int) ∧ 1 + (i : Int) < 2 ^ m := by rw [pow_cast]; omega
def spec_closes : Spec := fun cs b R => ∃ (m : Int) (ws : List Int), cs = [.val (.int m), .val (encI ws)] ∧ R (closE m ws) b
theorem run_closes (cs : List Cell) (b : Nat) (R : Except Er D → Nat → Prop) (h : spec_closes cs b R) : cs.length = 2 ∧ runB 3 (b_closes spec_check_weights spec_sum_of spec_closes_under) cs b R := by
  obtain ⟨m, ws, rfl, h⟩ := h
  refine ⟨rfl, ?_⟩
  unfold closE at h
  simp_arith [b_closes, startE]
  refine ⟨m, ws, rfl, ?_⟩
  cases e : chkW m ws with
  | error z => rw [e] at h; exact h
  | ok z =>
    rw [e] at h
    have h : R (if 6 < m then .error .tl else .ok (.bool (closB m.toNat ws))) b := h
    obtain ⟨m0, W, _⟩ := chkW_ok e
    by_cases c : 6 < m
    · rw [if_pos c] at h
      simp_arith [c]; exact h
    rw [if_neg c] at h
    obtain ⟨n, rfl⟩ : ∃ n : Nat, m = (n : Int) := ⟨m.toNat, by omega⟩
    rw [Int.toNat_natCast] at h W
    have hl := W.len
    have p := pow6 (m := n) (by omega)
    have pz : (2 : Int) ^ n = ((2 ^ n : Nat) : Int) := pow_cast n
    simp_arith [c, shl1 (m := (n : Int)) (by omega) (by omega)]
    rw [rangeD_one]
    refine ⟨⟨small_big (by omega) (by omega), small_big (by omega) (by omega)⟩, by simp; omega, ?_⟩
    refine wComp_xk (fun (i : Nat) => PyData.int (1 + (i : Int))) (fun i => decide (0 < wsum ws (1 + (i : Int)))) (fun i => .bool (clos ws (1 + (i : Int)))) (fun i hi Rf Rt h1 h2 => ?_) ?_
    · have o := oth (List.mem_range.1 hi)
      simp_arith
      refine ⟨ws, _, rfl, o.1, by rw [hl]; exact o.2, by omega, ?_⟩
      by_cases c2 : 0 < wsum ws (1 + (i : Int))
      · simp_arith [c2]
        exact ⟨ws, _, rfl, o.1, by rw [hl]; exact o.2, by omega, W.rg, h2 (decide_eq_true c2)⟩
      · simp_arith [c2]
        exact h1 (decide_eq_false c2)
    · unfold closB at h
      refine ⟨((List.range (2 ^ n - 1)).filter fun (i : Nat) => decide (0 < wsum ws (1 + (i : Int)))).map fun (i : Nat) => clos ws (1 + (i : Int)), by rw [List.map_map]; rfl, ?_⟩
      rw [List.all_map]
      exact h
end BB
set_option Elab.async false
set_option linter.all false
set_option maxRecDepth 100000
set_option autoImplicit false
set_option maxHeartbeats 2000000
/-! k59 -/
namespace BB
open PySem PySem.Spec PyProof.Rows L2
local macro_rules | `(tactic| simp_arith [$as,*]) => `(tactic| try simp [$as,*, -e_wbind, -e_wk, -e_wb2, -e_wb1, -e_wtest, -e_wand, -e_wor, -e_wnot, -e_wandV, -e_worV, -e_wnotV, -e_wif, -e_wchain, -e_wop, -e_witems, -e_sseq, -e_slift, -e_sdrop, -e_sret, -e_sif, -e_stry, -e_sapp, -e_sext, -e_runB, -e_sasg, -e_sasgF, -e_sasgT, -e_sfor, -e_wlst, -e_warg, -e_wnil, -e_wcons, -e_wnilC, -e_wconsC, -e_wtup, -e_wlis, -e_wlc, -e_wcall, -e_wsl, -e_wTupRg, -e_wLstRg, -e_wsel, ↓k_wbind, ↓k_wk, ↓k_wb2, ↓k_wb1, ↓k_wtest, ↓k_wand, ↓k_wor, ↓k_wnot, ↓k_wandV, ↓k_worV, ↓k_wnotV, ↓k_wif, ↓k_wchain, ↓k_wop, ↓k_witems, ↓k_sseq, ↓k_slift, ↓k_sdrop, ↓k_sret, ↓k_sif, ↓k_stry, ↓k_sapp, ↓k_sext, ↓k_wlst, ↓k_warg, ↓k_wnil, ↓k_wcons, ↓k_wnilC, ↓k_wconsC, ↓k_wtup, ↓k_wlis, ↓k_wlc, ↓k_wcall, ↓k_wsl, ↓k_wTupRg, ↓k_wLstRg, ↓k_wsel, ↓k_wrep, ↓k_wcat, ↓k_wlc2, ↓k_spop, ↓k_spopAt, ↓k_sdone, ↓k_wdget, ↓k_wdgetX, ↓k_sdput, ↓k_wdin, ↓k_wlenD, ↓k_wdc, ↓k_sasgD, ↓k_wsortD, ↓k_sdnew, ↓k_windex, ↓k_sset2, ↓k_slock, ↓k_wlock, ↓k_wkeysL, ↓k_wdinL, ↓k_sasg, ↓k_sasgF, ↓k_sasgT, ↓k_sfor, ↓k_runB, sizeLine_eq])
local macro_rules | `(tactic| simp_arith) => `(tactic| try simp [-e_wbind, -e_wk, -e_wb2, -e_wb1, -e_wtest, -e_wand, -e_wor, -e_wnot, -e_wandV, -e_worV, -e_wnotV, -e_wif, -e_wchain, -e_wop, -e_witems, -e_sseq, -e_slift, -e_sdrop, -e_sret, -e_sif, -e_stry, -e_sapp, -e_sext, -e_runB, -e_sasg, -e_sasgF, -e_sasgT, -e_sfor, -e_wlst, -e_warg, -e_wnil, -e_wcons, -e_wnilC, -e_wconsC, -e_wtup, -e_wlis, -e_wlc, -e_wcall, -e_wsl, -e_wTupRg, -e_wLstRg, -e_wsel, ↓k_wbind, ↓k_wk, ↓k_wb2, ↓k_wb1, ↓k_wtest, ↓k_wand, ↓k_wor, ↓k_wnot, ↓k_wandV, ↓k_worV, ↓k_wnotV, ↓k_wif, ↓k_wchain, ↓k_wop, ↓k_witems, ↓k_sseq, ↓k_slift, ↓k_sdrop, ↓k_sret, ↓k_sif, ↓k_stry, ↓k_sapp, ↓k_sext, ↓k_wlst, ↓k_warg, ↓k_wnil, ↓k_wcons, ↓k_wnilC, ↓k_wconsC, ↓k_wtup, ↓k_wlis, ↓k_wlc, ↓k_wcall, ↓k_wsl, ↓k_wTupRg, ↓k_wLstRg, ↓k_wsel, ↓k_wrep, ↓k_wcat, ↓k_wlc2, ↓k_spop, ↓k_spopAt, ↓k_sdone, ↓k_wdget, ↓k_wdgetX, ↓k_sdput, ↓k_wdin, ↓k_wlenD, ↓k_wdc, ↓k_sasgD, ↓k_wsortD, ↓k_sdnew, ↓k_windex, ↓k_sset2, ↓k_slock, ↓k_wlock, ↓k_wkeysL, ↓k_wdinL, ↓k_sasg, ↓k_sasgF, ↓k_sasgT, ↓k_sfor, ↓k_runB, sizeLine_eq])
def tri (a b : Nat) (o : Int) : D := .tuple [.int (a : Int), .int (b : Int), .int o]
def partOf (A : List Nat) (o : Int) (us : List Nat) : List D := us.flatMap fun a => (A.filter fun b => !decide (a &&& b ∈ A)).map fun b => tri a b o
def partAll (m : Nat) (ws : List Int) (is : List Nat) : List D := is.flatMap fun (i : Nat) => partOf (accL m ws (1 + (i : Int))) (1 + (i : Int)) (accL m ws (1 + (i : Int)))
def firstD : List D → Except Er D
  | [] => .error .ms
  | d :: _ => .ok d
def partE (m : Int) (ws : List Int) : Except Er D := (chkW m ws).bind fun _ => if 6 < m then .error .tl else firstD (partAll m.toNat ws (List.range (2 ^ m.toNat - 1)))
def spec_parting_sets : Spec := fun cs b R => ∃ (m : Int) (ws : List Int), cs = [.val (.int m), .val (encI ws)] ∧ R (partE m ws) b
theorem run_parting_sets (cs : List Cell) (b : Nat) (R : Except Er D → Nat → Prop) (h : spec_parting_sets cs b R) : cs.length = 2 ∧ runB 7 (b_parting_sets spec_check_weights spec_sum_of) cs b R := by
  obtain ⟨m, ws, rfl, h⟩ := h
  refine ⟨rfl, ?_⟩
  unfold partE at h
  simp_arith [b_parting_sets, startE]
  refine ⟨m, ws, rfl, ?_⟩
  cases e : chkW m ws with
  | error z => rw [e] at h; exact h
  | ok z =>
    rw [e] at h
    have h : R (if 6 < m then .error .tl else firstD (partAll m.toNat ws (List.range (2 ^ m.toNat - 1)))) b := h
    obtain ⟨m0, W, _⟩ := chkW_ok e
    by_cases c : 6 < m
    · rw [if_pos c] at h
      simp_arith [c]; exact h
    rw [if_neg c] at h
    obtain ⟨n, rfl⟩ : ∃ n : Nat, m = (n : Int) := ⟨m.toNat, by omega⟩
    rw [Int.toNat_natCast] at h W
    have hl := W.len
    have p := pow6 (m := n) (by omega)
    have pz : (2 : Int) ^ n = ((2 ^ n : Nat) : Int) := pow_cast n
    have hs : CShl 1 (n : Int) := shl1 (by omega) (by omega)
    simp_arith [c, hs]
    rw [rangeD_one]
    refine ⟨⟨small_big (by omega) (by omega), small_big (by omega) (by omega)⟩, ?_⟩
    refine wFor_xk (fun (i : Nat) => PyData.int (1 + (i : Int))) (fun (is : List Nat) δ b' => b' = b ∧ ∃ (x2 x3 x4 x5 x6 : Option Cell), (∀ i ∈ is, i < 2 ^ n - 1) ∧ partAll n ws is = partAll n ws (List.range (2 ^ n - 1)) ∧ δ = [some (.val (.int (n : Int))), some (.val (encI ws)), x2, x3, x4, x5, x6]) ?_ ?_ ⟨rfl, none, none, none, none, none, fun i hi => List.mem_range.1 hi, rfl, rfl⟩
    · rintro δ b' ⟨rfl, x2, x3, x4, x5, x6, _, e2, rfl⟩
      rw [← e2] at h
      simp_arith
      exact h
    · rintro i is δ b' K ⟨rfl, x2, x3, x4, x5, x6, im, e2, rfl⟩ hK
      have o := oth (im i List.mem_cons_self)
      have e2' : partOf (accL n ws (1 + (i : Int))) (1 + (i : Int)) (accL n ws (1 + (i : Int))) ++ partAll n ws is = partAll n ws (List.range (2 ^ n - 1)) := by
        rw [← e2]; unfold partAll; rw [List.flatMap_cons]
      simp_arith
      refine ⟨ws, _, rfl, o.1, by rw [hl]; exact o.2, by omega, ?_⟩
      simp_arith [hs]
      rw [rangeD_pow]
      refine ⟨small_big (by omega) (by omega), by simp; omega, ?_⟩
      rw [show ([] : List (Key × D)) = dks [] from rfl]
      refine wDcomp_tc (fun (i : Nat) => PyData.int (0 + (i : Int))) (acc ws (1 + (i : Int))) (fun (a : Nat) => (a : Int)) (fun a ha Q hq => ?_) (fun a ha _ Q hq => ?_) ?_
      · have al := List.mem_range.1 ha
        unfold acc at hq
        simp_arith
        by_cases c1 : Builtin.bitAnd (a : Int) (Builtin.bitNot (1 + (i : Int))) = 0
        · simp_arith [c1]
          refine ⟨ws, _, rfl, by omega, by rw [hl, pz]; omega, by omega, ?_⟩
          have w32 := wsum_32 (ws := ws) (by omega) W.rg (x := (a : Int))
          have w0 := wsum_0 W.rg (ws := ws) (x := (a : Int))
          simp_arith [mul2 (x := wsum ws (a : Int)) ⟨w0, w32⟩]
          simpa [c1] using hq
        · have c1b : (Builtin.bitAnd (a : Int) (Builtin.bitNot (1 + (i : Int))) == 0) = false := by simpa using c1
          simp_arith [c1b]
          simpa [c1] using hq
      · simp_arith; simpa using hq
      rw [show (List.range (2 ^ n)).filter (acc ws (1 + (i : Int))) = accL n ws (1 + (i : Int)) from rfl]
      have nd : (accL n ws (1 + (i : Int))).Nodup := List.Nodup.sublist List.filter_sublist List.nodup_range
      have al : ∀ a ∈ accL n ws (1 + (i : Int)), a < 2 ^ n := fun a ha => (mem_accL.1 ha).1
      generalize accL n ws (1 + (i : Int)) = A at nd al e2' ⊢
      rw [addAll_nodup (by simp) (List.Pairwise.map _ (fun a b e => by omega) nd), List.nil_append]
      rw [show dks (A.map fun (a : Nat) => (a : Int)) = dN A from rfl]
      simp_arith [dN_items]
      intro ad
      simp_arith [encN]
      generalize hT : partAll n ws is = T at e2' 
      refine wFor_xk (fun (a : Nat) => PyData.int (a : Int)) (fun (us : List Nat) δ b2 => b2 = b' ∧ ∃ (x5 x6 : Option Cell), partOf A (1 + (i : Int)) us ++ T = partAll n ws (List.range (2 ^ n - 1)) ∧ δ = [some (.val (.int (n : Int))), some (.val (encI ws)), some (.val (.int (1 + (i : Int)))), some (.val (.int (wsum ws (1 + (i : Int))))), some (.lk ad (dN A)), x5, x6]) ?_ ?_ ⟨rfl, x5, x6, e2', rfl⟩
      · rintro δ b2 ⟨rfl, x5, x6, e3, rfl⟩
        simp_arith
        refine hK _ _ ⟨rfl, _, _, _, unlkC ad x5, unlkC ad x6, fun j hj => im j (List.mem_cons_of_mem _ hj), ?_, rfl⟩
        rw [hT]; exact e3
      · rintro u us δ b2 K2 ⟨rfl, x5, x6, e3, rfl⟩ hK2
        have e3' : ((A.filter fun b => !decide (u &&& b ∈ A)).map fun b => tri u b (1 + (i : Int))) ++ (partOf A (1 + (i : Int)) us ++ T) = partAll n ws (List.range (2 ^ n - 1)) := by
          rw [← e3]; unfold partOf; rw [List.flatMap_cons, List.append_assoc]
        simp_arith [dN_items]
        simp_arith [encN]
        generalize hT2 : partOf A (1 + (i : Int)) us ++ T = T2 at e3'
        refine wFor_xk (fun (a : Nat) => PyData.int (a : Int)) (fun (vs : List Nat) δ b3 => b3 = b2 ∧ ∃ (x6 : Option Cell), ((vs.filter fun b => !decide (u &&& b ∈ A)).map fun b => tri u b (1 + (i : Int))) ++ T2 = partAll n ws (List.range (2 ^ n - 1)) ∧ δ = [some (.val (.int (n : Int))), some (.val (encI ws)), some (.val (.int (1 + (i : Int)))), some (.val (.int (wsum ws (1 + (i : Int))))), some (.lk ad (dN A)), some (.val (.int (u : Int))), x6]) ?_ ?_ ⟨rfl, x6, e3', rfl⟩
        · rintro δ b3 ⟨rfl, x6, e4, rfl⟩
          refine hK2 _ _ ⟨rfl, _, x6, ?_, rfl⟩
          rw [hT2]; exact e4
        · rintro v vs δ b3 K3 ⟨rfl, x6, e4, rfl⟩ hK3
          simp_arith [andN, dN_none]
          by_cases q : u &&& v ∈ A
          · rw [List.filter_cons_of_neg (by simp [q])] at e4
            simp_arith [q]
            exact hK3 _ _ ⟨rfl, _, e4, rfl⟩
          · rw [List.filter_cons_of_pos (by simp [q])] at e4
            rw [← e4] at h
            simp_arith [q]
            exact h
end BB
set_option Elab.async false
set_option linter.all false
set_option maxRecDepth 100000
set_option autoImplicit false
set_option maxHeartbeats 2000000
/-! k59 -/
namespace BB
open PySem PySem.Spec PyProof.Rows L2
local macro_rules | `(tactic| simp_arith [$as,*]) => `(tactic| try simp [$as,*, -e_wbind, -e_wk, -e_wb2, -e_wb1, -e_wtest, -e_wand, -e_wor, -e_wnot, -e_wandV, -e_worV, -e_wnotV, -e_wif, -e_wchain, -e_wop, -e_witems, -e_sseq, -e_slift, -e_sdrop, -e_sret, -e_sif, -e_stry, -e_sapp, -e_sext, -e_runB, -e_sasg, -e_sasgF, -e_sasgT, -e_sfor, -e_wlst, -e_warg, -e_wnil, -e_wcons, -e_wnilC, -e_wconsC, -e_wtup, -e_wlis, -e_wlc, -e_wcall, -e_wsl, -e_wTupRg, -e_wLstRg, -e_wsel, ↓k_wbind, ↓k_wk, ↓k_wb2, ↓k_wb1, ↓k_wtest, ↓k_wand, ↓k_wor, ↓k_wnot, ↓k_wandV, ↓k_worV, ↓k_wnotV, ↓k_wif, ↓k_wchain, ↓k_wop, ↓k_witems, ↓k_sseq, ↓k_slift, ↓k_sdrop, ↓k_sret, ↓k_sif, ↓k_stry, ↓k_sapp, ↓k_sext, ↓k_wlst, ↓k_warg, ↓k_wnil, ↓k_wcons, ↓k_wnilC, ↓k_wconsC, ↓k_wtup, ↓k_wlis, ↓k_wlc, ↓k_wcall, ↓k_wsl, ↓k_wTupRg, ↓k_wLstRg, ↓k_wsel, ↓k_wrep, ↓k_wcat, ↓k_wlc2, ↓k_spop, ↓k_spopAt, ↓k_sdone, ↓k_wdget, ↓k_wdgetX, ↓k_sdput, ↓k_wdin, ↓k_wlenD, ↓k_wdc, ↓k_sasgD, ↓k_wsortD, ↓k_sdnew, ↓k_windex, ↓k_sset2, ↓k_slock, ↓k_wlock, ↓k_wkeysL, ↓k_wdinL, ↓k_sasg, ↓k_sasgF, ↓k_sasgT, ↓k_sfor, ↓k_runB, sizeLine_eq])
local macro_rules | `(tactic| simp_arith) => `(tactic| try simp [-e_wbind, -e_wk, -e_wb2, -e_wb1, -e_wtest, -e_wand, -e_wor, -e_wnot, -e_wandV, -e_worV, -e_wnotV, -e_wif, -e_wchain, -e_wop, -e_witems, -e_sseq, -e_slift, -e_sdrop, -e_sret, -e_sif, -e_stry, -e_sapp, -e_sext, -e_runB, -e_sasg, -e_sasgF, -e_sasgT, -e_sfor, -e_wlst, -e_warg, -e_wnil, -e_wcons, -e_wnilC, -e_wconsC, -e_wtup, -e_wlis, -e_wlc, -e_wcall, -e_wsl, -e_wTupRg, -e_wLstRg, -e_wsel, ↓k_wbind, ↓k_wk, ↓k_wb2, ↓k_wb1, ↓k_wtest, ↓k_wand, ↓k_wor, ↓k_wnot, ↓k_wandV, ↓k_worV, ↓k_wnotV, ↓k_wif, ↓k_wchain, ↓k_wop, ↓k_witems, ↓k_sseq, ↓k_slift, ↓k_sdrop, ↓k_sret, ↓k_sif, ↓k_stry, ↓k_sapp, ↓k_sext, ↓k_wlst, ↓k_warg, ↓k_wnil, ↓k_wcons, ↓k_wnilC, ↓k_wconsC, ↓k_wtup, ↓k_wlis, ↓k_wlc, ↓k_wcall, ↓k_wsl, ↓k_wTupRg, ↓k_wLstRg, ↓k_wsel, ↓k_wrep, ↓k_wcat, ↓k_wlc2, ↓k_spop, ↓k_spopAt, ↓k_sdone, ↓k_wdget, ↓k_wdgetX, ↓k_sdput, ↓k_wdin, ↓k_wlenD, ↓k_wdc, ↓k_sasgD, ↓k_wsortD, ↓k_sdnew, ↓k_windex, ↓k_sset2, ↓k_slock, ↓k_wlock, ↓k_wkeysL, ↓k_wdinL, ↓k_sasg, ↓k_sasgF, ↓k_sasgT, ↓k_sfor, ↓k_runB, sizeLine_eq])
/-- the falling row -/
def srtD (l : List Int) : List Int := (srtI l).reverse
theorem srtD_perm {l : List Int} : (srtD l).Perm l := (List.reverse_perm _).trans srt_perm
theorem srtD_ord {l : List Int} : (srtD l).Pairwise (· ≥ ·) := by
  unfold srtD
  rw [List.pairwise_reverse]
  exact srt_ord
theorem srtD_is {l l2 : List Int} (p : l2.Perm l) (o : l2.Pairwise (· ≥ ·)) : l2 = srtD l := (p.trans srtD_perm.symm).eq_of_pairwise (fun a b _ _ h1 h2 => by omega) o srtD_ord
theorem idx_spec {ord : List Int} {x : Int} (h : x ∈ ord) {b : Nat} {R : Except Er D → Nat → Prop} (hr : R (.ok (.int ((idxOf ord x : Nat) : Int))) b) : ∃ (ns : List Int) (j : Nat), ord.map PyData.int = ns.map PyData.int ∧ ns[j]? = some x ∧ (∀ m z, m < j → ns[m]? = some z → z ≠ x) ∧ R (.ok (.int (j : Int))) b :=
  ⟨ord, idxOf ord x, rfl, (idx_at h).1, (idx_at h).2, hr⟩
theorem nodup_le : ∀ {ys l : List Int}, ys.Nodup → (∀ k ∈ ys, k ∈ l) → ys.length ≤ l.length
  | [], _, _, _ => Nat.zero_le _
  | x :: ys, l, nd, h => by
    obtain ⟨h1, h2⟩ := List.nodup_cons.1 nd
    have hx := h x List.mem_cons_self
    have := nodup_le (l := l.erase x) h2 fun k hk => (List.mem_erase_of_ne fun e => h1 (by rw [← e]; exact hk)).2 (h k (List.mem_cons_of_mem _ hk))
    rw [List.length_erase_of_mem hx] at this
    have := List.length_pos_of_mem hx
    rw [List.length_cons]; omega
theorem dup_lt : ∀ {l ys : List Int}, ys.Nodup → (∀ k, k ∈ ys ↔ k ∈ l) → ¬ l.Nodup → ys.length < l.length
  | [], _, _, _, h => absurd List.nodup_nil h
  | x :: l, ys, nd, h, n => by
    by_cases c : x ∈ l
    · have := nodup_le (l := l) nd fun k hk => by
        rcases List.mem_cons.1 ((h k).1 hk) with rfl | z
        · exact c
        · exact z
      rw [List.length_cons]; omega
    · have nl : ¬ l.Nodup := fun z => n (List.nodup_cons.2 ⟨c, z⟩)
      have hx := (h x).2 List.mem_cons_self
      have := dup_lt (ys := ys.erase x) (List.Nodup.erase x nd) (fun k => by
        rw [List.Nodup.mem_erase_iff nd, h k, List.mem_cons]
        constructor
        · rintro ⟨a, b | b⟩
          · exact absurd b a
          · exact b
        · intro a
          exact ⟨fun e => c (by rw [← e]; exact a), .inr a⟩) nl
      rw [List.length_erase_of_mem hx] at this
      have := List.length_pos_of_mem hx
      rw [List.length_cons]; omega
theorem set_len {l ys : List Int} (nd : ys.Nodup) (h : ∀ k, k ∈ ys ↔ k ∈ l) : ys.length < l.length ↔ ¬ l.Nodup := by
  constructor
  · intro lt n
    have : ys.Perm l := (List.perm_ext_iff_of_nodup nd n).2 h
    rw [this.length_eq] at lt; omega
  · exact dup_lt nd h
def stwE (m : Int) (rs : List Int) : Except Er D := (chkR m rs).bind fun _ => if 18 < m then .error .tl else if rs.Nodup then .ok (encI (stW (srtD rs) rs)) else .error .na
def spec_stepped_weights : Spec := fun cs b R => ∃ (m : Int) (rs : List Int), cs = [.val (.int m), .val (encI rs)] ∧ R (stwE m rs) b
theorem run_stepped_weights (cs : List Cell) (b : Nat) (R : Except Er D → Nat → Prop) (h : spec_stepped_weights cs b R) : cs.length = 2 ∧ runB 4 (b_stepped_weights spec_check_ranks) cs b R := by
  obtain ⟨m, rs, rfl, h⟩ := h
  refine ⟨rfl, ?_⟩
  unfold stwE at h
  simp_arith [b_stepped_weights, startE]
  refine ⟨m, rs, rfl, ?_⟩
  cases e : chkR m rs with
  | error z => rw [e] at h; exact h
  | ok z =>
    rw [e] at h
    have h : R (if 18 < m then .error .tl else if rs.Nodup then .ok (encI (stW (srtD rs) rs)) else .error .na) b := h
    obtain ⟨m0, W, _⟩ := chkR_ok e
    by_cases c : 18 < m
    · rw [if_pos c] at h
      simp_arith [c]; exact h
    rw [if_neg c] at h
    have hl := W.len
    simp_arith [c, encI]
    refine ⟨rs, rfl, by have := W.m2; omega, fun ys nd hy => ?_⟩
    have sl := set_len nd hy
    have lm : (rs.length : Int) = m := by omega
    by_cases c2 : rs.Nodup
    · rw [if_pos c2] at h
      have c3 : ¬ (ys.length : Int) < m := by
        have : ¬ ys.length < rs.length := fun z => sl.1 z c2
        omega
      simp_arith [c3]
      refine ⟨rs, .inr rfl, fun ns' p o => ?_⟩
      have e2 := srtD_is p o
      subst e2
      simp_arith
      refine ⟨by have := W.m2; omega, wComp_ak PyData.int (fun x => .int (2 ^ idxOf (srtD rs) x)) (fun x hx Rt hr => ?_) ?_⟩
      · have mem : x ∈ srtD rs := srtD_perm.mem_iff.2 hx
        have il := idx_lt mem
        have ol : (srtD rs).length = rs.length := srtD_perm.length_eq
        simp_arith
        exact ⟨srtD rs, rfl, idxOf (srtD rs) x, (idx_at mem).1, (idx_at mem).2, shl1 (m := ((idxOf (srtD rs) x : Nat) : Int)) (by omega) (by have := W.m2; omega), hr⟩
      · simp_arith
        unfold encI stW at h
        rw [List.map_map] at h
        exact h
    · rw [if_neg c2] at h
      have c3 : (ys.length : Int) < m := by
        have := sl.2 c2
        omega
      simp_arith [c3]
      exact h
def strE (m : Int) (ws : List Int) : Except Er D := (chkW m ws).bind fun _ => if stepB 0 (rowW ws) = true then (if (0 : Int) ∈ ws then .error .ms else .ok (encI (ws.map fun x => ((idxOf (srtD ws) x : Nat) : Int)))) else .error .ms
def spec_stepped_ranks : Spec := fun cs b R => ∃ (m : Int) (ws : List Int), cs = [.val (.int m), .val (encI ws)] ∧ R (strE m ws) b
theorem run_stepped_ranks (cs : List Cell) (b : Nat) (R : Except Er D → Nat → Prop) (h : spec_stepped_ranks cs b R) : cs.length = 2 ∧ runB 4 (b_stepped_ranks spec_has_big_steps) cs b R := by
  obtain ⟨m, ws, rfl, h⟩ := h
  refine ⟨rfl, ?_⟩
  unfold strE at h
  simp_arith [b_stepped_ranks, startE]
  refine ⟨m, ws, rfl, ?_⟩
  unfold bigsE
  cases e : chkW m ws with
  | error z => rw [e] at h; exact h
  | ok z =>
    rw [e] at h
    have h : R (if stepB 0 (rowW ws) = true then (if (0 : Int) ∈ ws then .error .ms else .ok (encI (ws.map fun x => ((idxOf (srtD ws) x : Nat) : Int)))) else .error .ms) b := h
    rw [show ((Except.ok z).bind fun _ => Except.ok (PyData.bool (stepB 0 (rowW ws))) : Except Er D) = Except.ok (PyData.bool (stepB 0 (rowW ws))) from rfl]
    obtain ⟨m0, W, _⟩ := chkW_ok e
    have hl := W.len
    have m2 := W.m2
    have m1 := W.m1
    cases q : stepB 0 (rowW ws) with
    | false =>
      rw [if_neg (by rw [q]; decide)] at h
      simp_arith
      exact h
    | true =>
      rw [if_pos q] at h
      simp_arith [encI]
      refine ⟨ws, .inr rfl, by omega, fun mn n1 n2 => ?_⟩
      by_cases c : mn = 0
      · subst c
        rw [if_pos n1] at h
        simp_arith
        exact h
      · have nz : (0 : Int) ∉ ws := fun z => by
          have := n2 0 z
          have := (W.rg mn n1).1
          omega
        rw [if_neg nz] at h
        simp_arith [bne_f c, c]
        refine ⟨ws, .inr rfl, fun ns' p o => ?_⟩
        have e2 := srtD_is p o
        subst e2
        simp_arith
        refine ⟨by omega, wComp_ak PyData.int (fun x => .int ((idxOf (srtD ws) x : Nat) : Int)) (fun x hx Rt hr => ?_) ?_⟩
        · have mem : x ∈ srtD ws := srtD_perm.mem_iff.2 hx
          simp_arith
          exact ⟨srtD ws, rfl, idxOf (srtD ws) x, (idx_at mem).1, (idx_at mem).2, hr⟩
        · simp_arith
          unfold encI at h
          rw [List.map_map] at h
          exact h
def heavyL (m : Nat) (ws : List Int) (one : Int) : List Nat := (List.range m).filter fun w => ib one w && decide (wsum ws one < 2 * wv ws w)
def firstN : List Nat → Except Er D
  | [] => .error .ms
  | w :: _ => .ok (.int (w : Int))
def heavE (m : Int) (ws : List Int) (one : Int) : Except Er D := (chkW m ws).bind fun _ => (checkSet m one).bind fun _ => firstN (heavyL m.toNat ws one)
def spec_heaviest : Spec := fun cs b R => ∃ (m : Int) (ws : List Int) (one : Int), cs = [.val (.int m), .val (encI ws), .val (.int one)] ∧ R (heavE m ws one) b
theorem run_heaviest (cs : List Cell) (b : Nat) (R : Except Er D → Nat → Prop) (h : spec_heaviest cs b R) : cs.length = 3 ∧ runB 4 (b_heaviest spec_check_weights spec_check_set spec_members spec_sum_of) cs b R := by
  obtain ⟨m, ws, one, rfl, h⟩ := h
  refine ⟨rfl, ?_⟩
  unfold heavE at h
  simp_arith [b_heaviest, startE]
  refine ⟨m, ws, rfl, ?_⟩
  cases e : chkW m ws with
  | error z => rw [e] at h; exact h
  | ok z =>
    rw [e] at h
    obtain ⟨m0, W, _⟩ := chkW_ok e
    have hl := W.len
    have m2 := W.m2
    simp_arith
    refine ⟨m, one, rfl, ?_⟩
    have h : R ((checkSet m one).bind fun _ => firstN (heavyL m.toNat ws one)) b := h
    cases e2 : checkSet m one with
    | error z => rw [e2] at h; exact h
    | ok z =>
      rw [e2] at h
      have h : R (firstN (heavyL m.toNat ws one)) b := h
      obtain ⟨_, o0, o1, _⟩ := checkSet_ok e2
      simp_arith
      refine ⟨one, m.toNat, rfl, o0, o1, by omega, ?_⟩
      rw [encB]
      have ef : heavyL m.toNat ws one = ((List.range m.toNat).filter (ib one)).filter fun w => decide (wsum ws one < 2 * wv ws w) := by
        unfold heavyL
        rw [List.filter_filter]
        congr 1
        funext w
        rw [Bool.and_comm]
      rw [ef] at h
      have lt : ∀ w ∈ (List.range m.toNat).filter (ib one), w < m.toNat := fun w hw => by rw [List.mem_filter, List.mem_range] at hw; exact hw.1
      generalize (List.range m.toNat).filter (ib one) = M at h lt ⊢
      simp_arith [encN]
      refine wFor_xk (fun (a : Nat) => PyData.int (a : Int)) (fun (us : List Nat) δ b' => b' = b ∧ ∃ (x3 : Option Cell), (∀ u ∈ us, u < m.toNat) ∧ us.filter (fun w => decide (wsum ws one < 2 * wv ws w)) = M.filter (fun w => decide (wsum ws one < 2 * wv ws w)) ∧ δ = [some (.val (.int m)), some (.val (encI ws)), some (.val (.int one)), x3]) ?_ ?_ ⟨rfl, none, lt, rfl, rfl⟩
      · rintro δ b' ⟨rfl, x3, _, e3, rfl⟩
        rw [← e3] at h
        simp_arith
        exact h
      · rintro u us δ b' K ⟨rfl, x3, um, e3, rfl⟩ hK
        have ul := um u List.mem_cons_self
        have wr := wv_rg W.rg u
        have cm : CMulX 2 (wv ws u) := mul2 (by omega)
        simp_arith [encI]
        refine ⟨_, atW (by omega), ?_⟩
        simp_arith [cm]
        refine ⟨ws, one, rfl, o0, by rw [hl]; exact o1, by omega, ?_⟩
        by_cases c : wsum ws one < 2 * wv ws u
        · rw [List.filter_cons_of_pos (by simpa using c)] at e3
          rw [← e3] at h
          simp_arith [c]
          exact h
        · rw [List.filter_cons_of_neg (by simpa using c)] at e3
          simp_arith [c]
          exact hK _ _ ⟨rfl, _, fun w hw => um w (List.mem_cons_of_mem _ hw), e3, rfl⟩
end BB
set_option Elab.async false
set_option linter.all false
set_option maxRecDepth 100000
set_option autoImplicit false
set_option maxHeartbeats 2000000
/-! k59 -/
namespace BB
open PySem PySem.Spec PyProof.Rows L2
local macro_rules | `(tactic| simp_arith [$as,*]) => `(tactic| try simp [$as,*, -e_wbind, -e_wk, -e_wb2, -e_wb1, -e_wtest, -e_wand, -e_wor, -e_wnot, -e_wandV, -e_worV, -e_wnotV, -e_wif, -e_wchain, -e_wop, -e_witems, -e_sseq, -e_slift, -e_sdrop, -e_sret, -e_sif, -e_stry, -e_sapp, -e_sext, -e_runB, -e_sasg, -e_sasgF, -e_sasgT, -e_sfor, -e_wlst, -e_warg, -e_wnil, -e_wcons, -e_wnilC, -e_wconsC, -e_wtup, -e_wlis, -e_wlc, -e_wcall, -e_wsl, -e_wTupRg, -e_wLstRg, -e_wsel, ↓k_wbind, ↓k_wk, ↓k_wb2, ↓k_wb1, ↓k_wtest, ↓k_wand, ↓k_wor, ↓k_wnot, ↓k_wandV, ↓k_worV, ↓k_wnotV, ↓k_wif, ↓k_wchain, ↓k_wop, ↓k_witems, ↓k_sseq, ↓k_slift, ↓k_sdrop, ↓k_sret, ↓k_sif, ↓k_stry, ↓k_sapp, ↓k_sext, ↓k_wlst, ↓k_warg, ↓k_wnil, ↓k_wcons, ↓k_wnilC, ↓k_wconsC, ↓k_wtup, ↓k_wlis, ↓k_wlc, ↓k_wcall, ↓k_wsl, ↓k_wTupRg, ↓k_wLstRg, ↓k_wsel, ↓k_wrep, ↓k_wcat, ↓k_wlc2, ↓k_spop, ↓k_spopAt, ↓k_sdone, ↓k_wdget, ↓k_wdgetX, ↓k_sdput, ↓k_wdin, ↓k_wlenD, ↓k_wdc, ↓k_sasgD, ↓k_wsortD, ↓k_sdnew, ↓k_windex, ↓k_sset2, ↓k_slock, ↓k_wlock, ↓k_wkeysL, ↓k_wdinL, ↓k_sasg, ↓k_sasgF, ↓k_sasgT, ↓k_sfor, ↓k_runB, sizeLine_eq])
local macro_rules | `(tactic| simp_arith) => `(tactic| try simp [-e_wbind, -e_wk, -e_wb2, -e_wb1, -e_wtest, -e_wand, -e_wor, -e_wnot, -e_wandV, -e_worV, -e_wnotV, -e_wif, -e_wchain, -e_wop, -e_witems, -e_sseq, -e_slift, -e_sdrop, -e_sret, -e_sif, -e_stry, -e_sapp, -e_sext, -e_runB, -e_sasg, -e_sasgF, -e_sasgT, -e_sfor, -e_wlst, -e_warg, -e_wnil, -e_wcons, -e_wnilC, -e_wconsC, -e_wtup, -e_wlis, -e_wlc, -e_wcall, -e_wsl, -e_wTupRg, -e_wLstRg, -e_wsel, ↓k_wbind, ↓k_wk, ↓k_wb2, ↓k_wb1, ↓k_wtest, ↓k_wand, ↓k_wor, ↓k_wnot, ↓k_wandV, ↓k_worV, ↓k_wnotV, ↓k_wif, ↓k_wchain, ↓k_wop, ↓k_witems, ↓k_sseq, ↓k_slift, ↓k_sdrop, ↓k_sret, ↓k_sif, ↓k_stry, ↓k_sapp, ↓k_sext, ↓k_wlst, ↓k_warg, ↓k_wnil, ↓k_wcons, ↓k_wnilC, ↓k_wconsC, ↓k_wtup, ↓k_wlis, ↓k_wlc, ↓k_wcall, ↓k_wsl, ↓k_wTupRg, ↓k_wLstRg, ↓k_wsel, ↓k_wrep, ↓k_wcat, ↓k_wlc2, ↓k_spop, ↓k_spopAt, ↓k_sdone, ↓k_wdget, ↓k_wdgetX, ↓k_sdput, ↓k_wdin, ↓k_wlenD, ↓k_wdc, ↓k_sasgD, ↓k_wsortD, ↓k_sdnew, ↓k_windex, ↓k_sset2, ↓k_slock, ↓k_wlock, ↓k_wkeysL, ↓k_wdinL, ↓k_sasg, ↓k_sasgF, ↓k_sasgT, ↓k_sfor, ↓k_runB, sizeLine_eq])
def sameE (m : Int) (ws rs : List Int) : Except Er D := (chkW m ws).bind fun _ => (chkR m rs).bind fun _ => if 6 < m then .error .tl else .ok (.bool (alikeB m.toNat ws rs))
def spec_same_as_ranks : Spec := fun cs b R => ∃ (m : Int) (ws rs : List Int), cs = [.val (.int m), .val (encI ws), .val (encI rs)] ∧ R (sameE m ws rs) b
theorem eqv_bools {x y : Bool} : PyData.eqv (.bool x) (.bool y) = (x == y) := by cases x <;> cases y <;> rfl
theorem run_same_as_ranks (cs : List Cell) (b : Nat) (R : Except Er D → Nat → Prop) (h : spec_same_as_ranks cs b R) : cs.length = 3 ∧ runB 6 (b_same_as_ranks spec_check_weights spec_check_ranks spec_check_many spec_least_of spec_sum_of) cs b R := by
  obtain ⟨m, ws, rs, rfl, h⟩ := h
  refine ⟨rfl, ?_⟩
  unfold sameE at h
  simp_arith [b_same_as_ranks, startE]
  refine ⟨m, ws, rfl, ?_⟩
  cases e : chkW m ws with
  | error z => rw [e] at h; exact h
  | ok z =>
    rw [e] at h
    obtain ⟨m0, W, _⟩ := chkW_ok e
    have hl := W.len
    have m2 := W.m2
    have m1 := W.m1
    simp_arith
    refine ⟨m, rs, rfl, ?_⟩
    have h : R ((chkR m rs).bind fun _ => if 6 < m then .error .tl else .ok (.bool (alikeB m.toNat ws rs))) b := h
    cases e2 : chkR m rs with
    | error z => rw [e2] at h; exact h
    | ok z =>
      rw [e2] at h
      have h : R (if 6 < m then .error .tl else .ok (.bool (alikeB m.toNat ws rs))) b := h
      obtain ⟨_, K, _⟩ := chkR_ok e2
      have kl := K.len
      simp_arith
      refine ⟨m, rfl, ?_⟩
      rw [checkMany_is (by omega)]
      by_cases c : 6 < m
      · rw [if_pos c] at h
        simp_arith [c]; exact h
      rw [if_neg c] at h
      obtain ⟨n, rfl⟩ : ∃ n : Nat, m = (n : Int) := ⟨m.toNat, by omega⟩
      rw [Int.toNat_natCast] at *
      have p := pow6 (m := n) (by omega)
      have pz : (2 : Int) ^ n = ((2 ^ n : Nat) : Int) := pow_cast n
      have hs : CShl 1 (n : Int) := shl1 (by omega) (by omega)
      simp_arith [c, hs]
      rw [rangeD_one]
      refine ⟨⟨small_big (by omega) (by omega), small_big (by omega) (by omega)⟩, ?_⟩
      unfold alikeB at h
      generalize hF : (fun (i : Nat) => (List.range (2 ^ n)).all fun one => likeB n ws rs (1 + (i : Int)) one) = F at h
      refine wFor_xk (fun (i : Nat) => PyData.int (1 + (i : Int))) (fun (is : List Nat) δ b' => b' = b ∧ ∃ (x3 x4 x5 : Option Cell), (∀ i ∈ is, i < 2 ^ n - 1) ∧ is.all F = (List.range (2 ^ n - 1)).all F ∧ δ = [some (.val (.int (n : Int))), some (.val (encI ws)), some (.val (encI rs)), x3, x4, x5]) ?_ ?_ ⟨rfl, none, none, none, fun i hi => List.mem_range.1 hi, rfl, rfl⟩
      · rintro δ b' ⟨rfl, x3, x4, x5, _, e3, rfl⟩
        rw [← e3] at h
        simp_arith
        exact h
      · rintro i is δ b' K ⟨rfl, x3, x4, x5, im, e3, rfl⟩ hK
        have o := oth (im i List.mem_cons_self)
        rw [List.all_cons] at e3
        have eF : F i = (List.range (2 ^ n)).all fun one => likeB n ws rs (1 + (i : Int)) one := by rw [← hF]
        rw [eF] at e3
        simp_arith
        refine ⟨n, rs, _, rfl, kl, by omega, o.1, o.2, ?_⟩
        simp_arith [hs]
        rw [rangeD_pow]
        refine ⟨small_big (by omega) (by omega), ?_⟩
        refine wFor_xk (fun (i : Nat) => PyData.int (0 + (i : Int))) (fun (us : List Nat) δ b2 => b2 = b' ∧ ∃ (x5 : Option Cell), ((us.all fun one => likeB n ws rs (1 + (i : Int)) one) && is.all F) = (List.range (2 ^ n - 1)).all F ∧ δ = [some (.val (.int (n : Int))), some (.val (encI ws)), some (.val (encI rs)), some (.val (.int (1 + (i : Int)))), some (.val (.int (lowS n rs (1 + (i : Int))))), x5]) ?_ ?_ ⟨rfl, x5, e3, rfl⟩
        · rintro δ b2 ⟨rfl, x5, e4, rfl⟩
          exact hK _ _ ⟨rfl, _, _, x5, fun j hj => im j (List.mem_cons_of_mem _ hj), e4, rfl⟩
        · rintro u us δ b2 K2 ⟨rfl, x5, e4, rfl⟩ hK2
          rw [List.all_cons, Bool.and_assoc] at e4
          have r1 := and_range (y := (u : Int)) ⟨o.1, o.2⟩
          have r2 := and_range (y := Builtin.bitNot (u : Int)) ⟨o.1, o.2⟩
          simp_arith
          refine ⟨ws, _, rfl, r1.1, by rw [hl]; exact r1.2, by omega, ?_⟩
          simp_arith
          refine ⟨ws, _, rfl, r2.1, by rw [hl]; exact r2.2, by omega, ?_⟩
          simp_arith
          refine ⟨okE_of rfl rfl, ?_⟩
          rw [eqv_bools, beq_dec (a := Builtin.bitAnd (lowS n rs (1 + (i : Int))) (Builtin.bitNot (u : Int)))]
          have el : (decide (wsum ws (Builtin.bitAnd (1 + (i : Int)) (Builtin.bitNot (u : Int))) < wsum ws (Builtin.bitAnd (1 + (i : Int)) (u : Int))) == decide (Builtin.bitAnd (lowS n rs (1 + (i : Int))) (Builtin.bitNot (u : Int)) = 0)) = likeB n ws rs (1 + (i : Int)) u := rfl
          rw [el]
          cases q : likeB n ws rs (1 + (i : Int)) u with
          | true =>
            rw [q, Bool.true_and] at e4
            simp_arith
            exact hK2 _ _ ⟨rfl, _, e4, rfl⟩
          | false =>
            rw [q, Bool.false_and] at e4
            rw [← e4] at h
            simp_arith
            exact h
/-! the law's own -/
def spec__law_low : Spec := fun cs b R => ∃ (rs : List Int) (one : Int), cs = [.val (encI rs), .val (.int one)] ∧ rs.length ≤ 32 ∧ (∀ x ∈ rs, x ≤ 1000) ∧ ∀ mn : Int, ((∃ w, w < rs.length ∧ ib one w = true) → ∃ w, w < rs.length ∧ ib one w = true ∧ wv rs w = mn) → (∀ w, w < rs.length → ib one w = true → mn ≤ wv rs w) → R (.ok (.int mn)) b
theorem run__law_low (cs : List Cell) (b : Nat) (R : Except Er D → Nat → Prop) (h : spec__law_low cs b R) : cs.length = 2 ∧ runB 3 b__law_low cs b R := by
  obtain ⟨rs, one, rfl, l32, rg, h⟩ := h
  refine ⟨rfl, ?_⟩
  simp_arith [b__law_low, startE, encI]
  rw [rangeD_nat]
  refine ⟨small_big (by omega) (by omega), by simp; omega, ?_⟩
  have ln : ((List.range rs.length).filter (ib one)).length ≤ rs.length := Nat.le_trans (List.length_filter_le _ _) (by simp)
  refine wComp_xk (fun (i : Nat) => PyData.int (0 + (i : Int))) (ib one) (fun w => .int (wv rs w)) (fun w hw Rf Rt h1 h2 => ?_) ?_
  · have wl := List.mem_range.1 hw
    simp_arith [bit_ne]
    cases q : ib one w with
    | true =>
      simp_arith
      exact ⟨_, atW wl, h2 q⟩
    | false => simp_arith; exact h1 q
  · simp_arith
    refine ⟨by omega, ?_⟩
    refine ⟨((List.range rs.length).filter (ib one)).map (wv rs) ++ [99999], .inl (by simp), by simp, fun mn n1 n2 => ?_⟩
    have mem : ∀ w, w < rs.length → ib one w = true → wv rs w ∈ ((List.range rs.length).filter (ib one)).map (wv rs) ++ [99999] := fun w hw ow => List.mem_append_left _ (List.mem_map_of_mem (List.mem_filter.2 ⟨List.mem_range.2 hw, ow⟩))
    refine h mn (fun ⟨w, hw, ow⟩ => ?_) (fun w hw ow => n2 _ (mem w hw ow))
    rcases List.mem_append.1 n1 with z | z
    · obtain ⟨u, hu, e⟩ := List.mem_map.1 z
      rw [List.mem_filter, List.mem_range] at hu
      exact ⟨u, hu.1, hu.2, e⟩
    · rw [List.mem_singleton] at z
      have := n2 _ (mem w hw ow)
      have := rg _ (wv_mem hw)
      omega
def spec__law_lowest : Spec := fun cs b R => ∃ (m : Nat) (rs : List Int) (one : Int), cs = [.val (encI rs), .val (.int one)] ∧ rs.length = m ∧ m ≤ 32 ∧ (∀ x ∈ rs, x ≤ 1000) ∧ (∃ w, w < m ∧ ib one w = true) ∧ R (.ok (.int (lowS m rs one))) b
theorem run__law_lowest (cs : List Cell) (b : Nat) (R : Except Er D → Nat → Prop) (h : spec__law_lowest cs b R) : cs.length = 2 ∧ runB 4 (b__law_lowest spec__law_low) cs b R := by
  obtain ⟨m, rs, one, rfl, hl, m2, rg, ex, h⟩ := h
  refine ⟨rfl, ?_⟩
  simp_arith [b__law_lowest, startE]
  refine ⟨rs, one, rfl, by omega, rg, fun mn h1 h2 => ?_⟩
  rw [hl] at h1 h2
  simp_arith [encI]
  rw [hl, rangeD_nat]
  refine ⟨small_big (by omega) (by omega), by simp; omega, ?_⟩
  refine wComp_xk (fun (i : Nat) => PyData.int (0 + (i : Int))) (fun w => ib one w && decide (wv rs w = mn)) (fun w => .int (2 ^ w)) (fun w hw Rf Rt h3 h4 => ?_) ?_
  · have wl := List.mem_range.1 hw
    simp_arith [bit_ne]
    cases q : ib one w with
    | true =>
      simp_arith
      refine ⟨_, atW (by omega), ?_⟩
      by_cases e : wv rs w = mn
      · simp_arith [e, shl1 (m := (w : Int)) (by omega) (by omega)]
        exact h4 (by rw [q, decide_eq_true e]; rfl)
      · have eb : (wv rs w == mn) = false := by simpa using e
        simp_arith [eb]
        exact h3 (by rw [decide_eq_false e, Bool.and_false])
    | false => simp_arith; exact h3 (by rw [q]; rfl)
  · simp_arith
    refine ⟨((List.range m).filter fun w => ib one w && decide (wv rs w = mn)).map fun (w : Nat) => (2 : Int) ^ w, by rw [List.map_map]; rfl, ?_⟩
    have := lowS_min (m := m) (rs := rs) (one := one) (mn := mn) (h1 ex) h2
    rw [sum_filtN, this]
    exact h
def spec__law_alike : Spec := fun cs b R => ∃ (m : Nat) (ws rs : List Int), cs = [.val (encI ws), .val (encI rs)] ∧ ws.length = m ∧ rs.length = m ∧ m ≤ 6 ∧ (∀ x ∈ rs, x ≤ 1000) ∧ R (.ok (.bool (alikeB m ws rs))) b
theorem run__law_alike (cs : List Cell) (b : Nat) (R : Except Er D → Nat → Prop) (h : spec__law_alike cs b R) : cs.length = 2 ∧ runB 5 (b__law_alike spec__law_lowest spec__law_weight) cs b R := by
  obtain ⟨n, ws, rs, rfl, hl, kl, n6, rg, h⟩ := h
  refine ⟨rfl, ?_⟩
  have p := pow6 (m := n) n6
  have pz : (2 : Int) ^ n = ((2 ^ n : Nat) : Int) := pow_cast n
  have hs : CShl 1 (n : Int) := shl1 (by omega) (by omega)
  have kLen_e : ∀ {b : Nat} {R : Except Er D → Nat → Prop}, kLen (encI ws) b R = R (.ok (.int (n : Int))) b := fun {b R} => by
    show R (.ok (.int ((ws.map PyData.int).length : Nat))) b = _
    rw [List.length_map, hl]
  simp_arith [b__law_alike, startE, kLen_e, hs]
  rw [rangeD_one]
  refine ⟨⟨small_big (by omega) (by omega), small_big (by omega) (by omega)⟩, ?_⟩
  unfold alikeB at h
  generalize hF : (fun (i : Nat) => (List.range (2 ^ n)).all fun one => likeB n ws rs (1 + (i : Int)) one) = F at h
  refine wFor_xk (fun (i : Nat) => PyData.int (1 + (i : Int))) (fun (is : List Nat) δ b' => b' = b ∧ ∃ (x3 x4 x5 : Option Cell), (∀ i ∈ is, i < 2 ^ n - 1) ∧ is.all F = (List.range (2 ^ n - 1)).all F ∧ δ = [some (.val (encI ws)), some (.val (encI rs)), x3, x4, x5]) ?_ ?_ ⟨rfl, none, none, none, fun i hi => List.mem_range.1 hi, rfl, rfl⟩
  · rintro δ b' ⟨rfl, x3, x4, x5, _, e3, rfl⟩
    rw [← e3] at h
    simp_arith
    exact h
  · rintro i is δ b' K ⟨rfl, x3, x4, x5, im, e3, rfl⟩ hK
    have o := oth (im i List.mem_cons_self)
    have nz : (1 + (i : Int)) ≠ 0 := by omega
    obtain ⟨w0, hw0⟩ := ne_zero_iff.1 nz
    have l0 : w0 < n := Classical.byContradiction fun z => by rw [ib_lt o.1 o.2 (by omega)] at hw0; cases hw0
    rw [List.all_cons] at e3
    have eF : F i = (List.range (2 ^ n)).all fun one => likeB n ws rs (1 + (i : Int)) one := by rw [← hF]
    rw [eF] at e3
    simp_arith
    refine ⟨n, rs, _, rfl, kl, by omega, rg, ⟨w0, l0, hw0⟩, ?_⟩
    simp_arith [kLen_e, hs]
    rw [rangeD_pow]
    refine ⟨small_big (by omega) (by omega), ?_⟩
    refine wFor_xk (fun (i : Nat) => PyData.int (0 + (i : Int))) (fun (us : List Nat) δ b2 => b2 = b' ∧ ∃ (x5 : Option Cell), ((us.all fun one => likeB n ws rs (1 + (i : Int)) one) && is.all F) = (List.range (2 ^ n - 1)).all F ∧ δ = [some (.val (encI ws)), some (.val (encI rs)), some (.val (.int (1 + (i : Int)))), some (.val (.int (lowS n rs (1 + (i : Int))))), x5]) ?_ ?_ ⟨rfl, x5, e3, rfl⟩
    · rintro δ b2 ⟨rfl, x5, e4, rfl⟩
      exact hK _ _ ⟨rfl, _, _, x5, fun j hj => im j (List.mem_cons_of_mem _ hj), e4, rfl⟩
    · rintro u us δ b2 K2 ⟨rfl, x5, e4, rfl⟩ hK2
      rw [List.all_cons, Bool.and_assoc] at e4
      simp_arith
      refine ⟨ws, _, rfl, by omega, ?_⟩
      simp_arith
      refine ⟨ws, _, rfl, by omega, ?_⟩
      simp_arith
      refine ⟨okE_of rfl rfl, ?_⟩
      rw [eqv_bools, beq_dec (a := Builtin.bitAnd (lowS n rs (1 + (i : Int))) (Builtin.bitNot (u : Int)))]
      have el : (decide (wsum ws (Builtin.bitAnd (1 + (i : Int)) (Builtin.bitNot (u : Int))) < wsum ws (Builtin.bitAnd (1 + (i : Int)) (u : Int))) == decide (Builtin.bitAnd (lowS n rs (1 + (i : Int))) (Builtin.bitNot (u : Int)) = 0)) = likeB n ws rs (1 + (i : Int)) u := rfl
      rw [el]
      cases q : likeB n ws rs (1 + (i : Int)) u with
      | true =>
        rw [q, Bool.true_and] at e4
        simp_arith
        exact hK2 _ _ ⟨rfl, _, e4, rfl⟩
      | false =>
        rw [q, Bool.false_and] at e4
        rw [← e4] at h
        simp_arith
        exact h
end BB
set_option Elab.async false
set_option linter.all false
set_option maxRecDepth 100000
set_option autoImplicit false
set_option maxHeartbeats 2000000
/-! k59 -/
namespace BB
open PySem PySem.Spec PyProof.Rows L2
local macro_rules | `(tactic| simp_arith [$as,*]) => `(tactic| try simp [$as,*, -e_wbind, -e_wk, -e_wb2, -e_wb1, -e_wtest, -e_wand, -e_wor, -e_wnot, -e_wandV, -e_worV, -e_wnotV, -e_wif, -e_wchain, -e_wop, -e_witems, -e_sseq, -e_slift, -e_sdrop, -e_sret, -e_sif, -e_stry, -e_sapp, -e_sext, -e_runB, -e_sasg, -e_sasgF, -e_sasgT, -e_sfor, -e_wlst, -e_warg, -e_wnil, -e_wcons, -e_wnilC, -e_wconsC, -e_wtup, -e_wlis, -e_wlc, -e_wcall, -e_wsl, -e_wTupRg, -e_wLstRg, -e_wsel, ↓k_wbind, ↓k_wk, ↓k_wb2, ↓k_wb1, ↓k_wtest, ↓k_wand, ↓k_wor, ↓k_wnot, ↓k_wandV, ↓k_worV, ↓k_wnotV, ↓k_wif, ↓k_wchain, ↓k_wop, ↓k_witems, ↓k_sseq, ↓k_slift, ↓k_sdrop, ↓k_sret, ↓k_sif, ↓k_stry, ↓k_sapp, ↓k_sext, ↓k_wlst, ↓k_warg, ↓k_wnil, ↓k_wcons, ↓k_wnilC, ↓k_wconsC, ↓k_wtup, ↓k_wlis, ↓k_wlc, ↓k_wcall, ↓k_wsl, ↓k_wTupRg, ↓k_wLstRg, ↓k_wsel, ↓k_wrep, ↓k_wcat, ↓k_wlc2, ↓k_spop, ↓k_spopAt, ↓k_sdone, ↓k_wdget, ↓k_wdgetX, ↓k_sdput, ↓k_wdin, ↓k_wlenD, ↓k_wdc, ↓k_sasgD, ↓k_wsortD, ↓k_sdnew, ↓k_windex, ↓k_sset2, ↓k_slock, ↓k_wlock, ↓k_wkeysL, ↓k_wdinL, ↓k_sasg, ↓k_sasgF, ↓k_sasgT, ↓k_sfor, ↓k_runB, sizeLine_eq])
local macro_rules | `(tactic| simp_arith) => `(tactic| try simp [-e_wbind, -e_wk, -e_wb2, -e_wb1, -e_wtest, -e_wand, -e_wor, -e_wnot, -e_wandV, -e_worV, -e_wnotV, -e_wif, -e_wchain, -e_wop, -e_witems, -e_sseq, -e_slift, -e_sdrop, -e_sret, -e_sif, -e_stry, -e_sapp, -e_sext, -e_runB, -e_sasg, -e_sasgF, -e_sasgT, -e_sfor, -e_wlst, -e_warg, -e_wnil, -e_wcons, -e_wnilC, -e_wconsC, -e_wtup, -e_wlis, -e_wlc, -e_wcall, -e_wsl, -e_wTupRg, -e_wLstRg, -e_wsel, ↓k_wbind, ↓k_wk, ↓k_wb2, ↓k_wb1, ↓k_wtest, ↓k_wand, ↓k_wor, ↓k_wnot, ↓k_wandV, ↓k_worV, ↓k_wnotV, ↓k_wif, ↓k_wchain, ↓k_wop, ↓k_witems, ↓k_sseq, ↓k_slift, ↓k_sdrop, ↓k_sret, ↓k_sif, ↓k_stry, ↓k_sapp, ↓k_sext, ↓k_wlst, ↓k_warg, ↓k_wnil, ↓k_wcons, ↓k_wnilC, ↓k_wconsC, ↓k_wtup, ↓k_wlis, ↓k_wlc, ↓k_wcall, ↓k_wsl, ↓k_wTupRg, ↓k_wLstRg, ↓k_wsel, ↓k_wrep, ↓k_wcat, ↓k_wlc2, ↓k_spop, ↓k_spopAt, ↓k_sdone, ↓k_wdget, ↓k_wdgetX, ↓k_sdput, ↓k_wdin, ↓k_wlenD, ↓k_wdc, ↓k_sasgD, ↓k_wsortD, ↓k_sdnew, ↓k_windex, ↓k_sset2, ↓k_slock, ↓k_wlock, ↓k_wkeysL, ↓k_wdinL, ↓k_sasg, ↓k_sasgF, ↓k_sasgT, ↓k_sfor, ↓k_runB, sizeLine_eq])
def castI (A : List Nat) : List Int := A.map fun (a : Nat) => (a : Int)
theorem encN_int {A : List Nat} : encN A = (castI A).map PyData.int := by
  unfold encN castI; rw [List.map_map]; rfl
theorem mem_castI {A : List Nat} {w : Nat} : ((w : Int) ∈ castI A) ↔ w ∈ A := mem_castN
theorem castI_len {A : List Nat} : (castI A).length = A.length := List.length_map ..
def spec__law_accepted : Spec := fun cs b R => ∃ (m : Nat) (ws : List Int) (other : Int), cs = [.val (encI ws), .val (.int other)] ∧ ws.length = m ∧ m ≤ 6 ∧ (∀ x ∈ ws, 0 ≤ x ∧ x ≤ 1000000) ∧ R (.ok (.list (encN (accL m ws other)))) b
theorem run__law_accepted (cs : List Cell) (b : Nat) (R : Except Er D → Nat → Prop) (h : spec__law_accepted cs b R) : cs.length = 2 ∧ runB 4 (b__law_accepted spec__law_weight) cs b R := by
  obtain ⟨n, ws, other, rfl, hl, n6, rg, h⟩ := h
  refine ⟨rfl, ?_⟩
  have p := pow6 (m := n) n6
  have pz : (2 : Int) ^ n = ((2 ^ n : Nat) : Int) := pow_cast n
  have hs : CShl 1 (n : Int) := shl1 (by omega) (by omega)
  have kLen_e : ∀ {b : Nat} {R : Except Er D → Nat → Prop}, kLen (encI ws) b R = R (.ok (.int (n : Int))) b := fun {b R} => by
    show R (.ok (.int ((ws.map PyData.int).length : Nat))) b = _
    rw [List.length_map, hl]
  simp_arith [b__law_accepted, startE]
  refine ⟨ws, _, rfl, by omega, ?_⟩
  simp_arith [kLen_e, hs]
  rw [rangeD_pow]
  refine ⟨small_big (by omega) (by omega), by simp; omega, ?_⟩
  refine wComp_xk (fun (i : Nat) => PyData.int (0 + (i : Int))) (acc ws other) (fun (a : Nat) => .int (a : Int)) (fun a ha Rf Rt h1 h2 => ?_) ?_
  · unfold acc at h1 h2
    simp_arith
    by_cases c1 : Builtin.bitAnd (a : Int) (Builtin.bitNot other) = 0
    · simp_arith [c1]
      refine ⟨ws, _, rfl, by omega, ?_⟩
      have w32 := wsum_32 (ws := ws) (by omega) rg (x := (a : Int))
      have w0 := wsum_0 rg (ws := ws) (x := (a : Int))
      simp_arith [mul2 (x := wsum ws (a : Int)) ⟨w0, w32⟩]
      by_cases c2 : wsum ws other < 2 * wsum ws (a : Int)
      · simp_arith [c2]; exact h2 (by simp [c1, c2])
      · simp_arith [c2]; exact h1 (by simp [c2])
    · have c1b : (Builtin.bitAnd (a : Int) (Builtin.bitNot other) == 0) = false := by simpa using c1
      simp_arith [c1b]
      exact h1 (by simp [c1])
  · have e : (List.range (2 ^ n)).filter (acc ws other) = accL n ws other := rfl
    rw [e]
    exact h
theorem accL_len {m : Nat} {ws : List Int} {other : Int} : (accL m ws other).length ≤ 2 ^ m := Nat.le_trans (List.length_filter_le _ _) (by simp)
def spec__law_parts : Spec := fun cs b R => ∃ (m : Nat) (ws : List Int) (other : Int), cs = [.val (encI ws), .val (.int other)] ∧ ws.length = m ∧ m ≤ 6 ∧ (∀ x ∈ ws, 0 ≤ x ∧ x ≤ 1000000) ∧ R (.ok (.bool (partsB m ws other))) b
theorem run__law_parts (cs : List Cell) (b : Nat) (R : Except Er D → Nat → Prop) (h : spec__law_parts cs b R) : cs.length = 2 ∧ runB 5 (b__law_parts spec__law_accepted) cs b R := by
  obtain ⟨n, ws, other, rfl, hl, n6, rg, h⟩ := h
  refine ⟨rfl, ?_⟩
  have p := pow6 (m := n) n6
  simp_arith [b__law_parts, startE]
  refine ⟨n, ws, other, rfl, hl, n6, rg, ?_⟩
  have al := accL_len (m := n) (ws := ws) (other := other)
  unfold partsB at h
  generalize accL n ws other = A at h al ⊢
  generalize hF : (fun a => A.any fun b => !decide (a &&& b ∈ A)) = F at h
  simp_arith [encN]
  refine wFor_xk (fun (a : Nat) => PyData.int (a : Int)) (fun (us : List Nat) δ b' => b' = b ∧ ∃ (x3 x4 : Option Cell), us.any F = A.any F ∧ δ = [some (.val (encI ws)), some (.val (.int other)), some (.val (.list (encN A))), x3, x4]) ?_ ?_ ⟨rfl, none, none, rfl, by simp [encN]⟩
  · rintro δ b' ⟨rfl, x3, x4, e3, rfl⟩
    rw [← e3] at h
    simp_arith
    exact h
  · rintro u us δ b' K ⟨rfl, x3, x4, e3, rfl⟩ hK
    rw [List.any_cons] at e3
    have eF : F u = A.any fun b => !decide (u &&& b ∈ A) := by rw [← hF]
    rw [eF] at e3
    simp_arith
    simp_arith [encN]
    refine wFor_xk (fun (a : Nat) => PyData.int (a : Int)) (fun (vs : List Nat) δ b2 => b2 = b' ∧ ∃ (x4 : Option Cell), ((vs.any fun b => !decide (u &&& b ∈ A)) || us.any F) = A.any F ∧ δ = [some (.val (encI ws)), some (.val (.int other)), some (.val (.list (encN A))), some (.val (.int (u : Int))), x4]) ?_ ?_ ⟨rfl, x4, e3, by simp [encN]⟩
    · rintro δ b2 ⟨rfl, x4, e4, rfl⟩
      exact hK _ _ ⟨rfl, _, x4, e4, rfl⟩
    · rintro v vs δ b2 K2 ⟨rfl, x4, e4, rfl⟩ hK2
      rw [List.any_cons, Bool.or_assoc] at e4
      simp_arith [andN, encN_int]
      by_cases q : u &&& v ∈ A
      · have q2 := mem_castI.2 q
        rw [show (!decide (u &&& v ∈ A)) = false by simp [q], Bool.false_or] at e4
        simp_arith [q2, castI_len]
        exact hK2 _ _ ⟨rfl, _, e4, by rw [encN_int]⟩
      · have q2 : ¬ (((u &&& v : Nat) : Int) ∈ castI A) := fun z => q (mem_castI.1 z)
        rw [show (!decide (u &&& v ∈ A)) = true by simp [q], Bool.true_or] at e4
        rw [← e4] at h
        simp_arith [q2, castI_len]
        exact h
theorem getD_take {row : List Int} {k : Nat} (h : k < row.length) : atI (row.map PyData.int) (k : Int) = some (.int (row.getD k 0)) := by
  refine atI_nat ?_
  rw [List.getElem?_map, List.getElem?_eq_getElem h, List.getD_eq_getElem?_getD, List.getElem?_eq_getElem h]; rfl
def spec__law_stepped : Spec := fun cs b R => ∃ (ws : List Int), cs = [.val (encI ws)] ∧ ws.length ≤ 32 ∧ R (.ok (.bool (lawStep (rowW ws)))) b
theorem run__law_stepped (cs : List Cell) (b : Nat) (R : Except Er D → Nat → Prop) (h : spec__law_stepped cs b R) : cs.length = 1 ∧ runB 4 b__law_stepped cs b R := by
  obtain ⟨ws, rfl, l32, h⟩ := h
  refine ⟨rfl, ?_⟩
  simp_arith [b__law_stepped, startE, encI]
  refine ⟨by omega, wComp_xk PyData.int (fun x => decide (0 < x)) PyData.int (fun x hx Rf Rt h1 h2 => ?_) ?_⟩
  · by_cases c : 0 < x
    · simp_arith [c]; exact h2 (decide_eq_true c)
    · simp_arith [c]; exact h1 (decide_eq_false c)
  refine ⟨ws.filter fun x => decide (0 < x), rfl, fun ns' p o => ?_⟩
  have e2 : ns' = rowW ws := srt_is p o
  subst e2
  have rl := rowW_len (ws := ws)
  generalize rowW ws = row at h rl ⊢
  simp_arith
  rw [rangeD_nat]
  refine ⟨small_big (by omega) (by omega), by simp; omega, ?_⟩
  refine wComp_ak (fun (i : Nat) => PyData.int (0 + (i : Int))) (fun k => .bool (decide ((row.take k).sum < row.getD k 0))) (fun k hk Rt hr => ?_) ?_
  · have kl := List.mem_range.1 hk
    simp_arith
    refine ⟨_, getD_take kl, ?_⟩
    simp_arith [cut_to]
    refine ⟨row.take k, .inl (by rw [List.map_take]), ?_⟩
    simp_arith
    simpa using hr
  · unfold lawStep at h
    refine ⟨(List.range row.length).map fun k => decide ((row.take k).sum < row.getD k 0), by rw [List.map_map]; rfl, ?_⟩
    rw [List.all_map]
    exact h
def spec__law_nearly : Spec := fun cs b R => ∃ (ws : List Int), cs = [.val (encI ws)] ∧ ws.length ≤ 32 ∧ R (.ok (.bool (lawNear (rowW ws)))) b
theorem run__law_nearly (cs : List Cell) (b : Nat) (R : Except Er D → Nat → Prop) (h : spec__law_nearly cs b R) : cs.length = 1 ∧ runB 4 b__law_nearly cs b R := by
  obtain ⟨ws, rfl, l32, h⟩ := h
  refine ⟨rfl, ?_⟩
  simp_arith [b__law_nearly, startE, encI]
  refine ⟨by omega, wComp_xk PyData.int (fun x => decide (0 < x)) PyData.int (fun x hx Rf Rt h1 h2 => ?_) ?_⟩
  · by_cases c : 0 < x
    · simp_arith [c]; exact h2 (decide_eq_true c)
    · simp_arith [c]; exact h1 (decide_eq_false c)
  refine ⟨ws.filter fun x => decide (0 < x), rfl, fun ns' p o => ?_⟩
  have e2 : ns' = rowW ws := srt_is p o
  subst e2
  have rl := rowW_len (ws := ws)
  generalize rowW ws = row at h rl ⊢
  simp_arith
  rw [rangeD_nat]
  refine ⟨small_big (by omega) (by omega), by simp; omega, ?_⟩
  refine wComp_ak (fun (i : Nat) => PyData.int (0 + (i : Int))) (fun k => .bool (decide ((row.take k).sum < row.getD k 0) || (decide (k = 1) && decide (row.getD 1 0 = row.getD 0 0)))) (fun k hk Rt hr => ?_) ?_
  · have kl := List.mem_range.1 hk
    have ax := getD_take kl
    have a1 : 1 < row.length → _ := fun z => getD_take (row := row) (k := 1) z
    have a0 := getD_take (row := row) (k := 0) (by omega)
    generalize row.getD k 0 = x at ax hr
    generalize row.getD 1 0 = y1 at a1 hr
    generalize row.getD 0 0 = y0 at a0 hr
    simp_arith
    refine ⟨_, ax, ?_⟩
    simp_arith [cut_to]
    refine ⟨row.take k, .inl (by rw [List.map_take]), ?_⟩
    generalize (row.take k).sum = t at hr ⊢
    by_cases c : t < x
    · simp_arith [c]
      simpa [c] using hr
    · by_cases c1 : k = 1
      · subst c1
        simp_arith [c]
        refine ⟨_, a1 kl, ?_⟩
        simp_arith
        refine ⟨_, a0, ?_⟩
        simp_arith
        simpa [c, beq_dec] using hr
      · have c1b : ((k : Int) == 1) = false := by simpa using (show ¬ (k : Int) = 1 by omega)
        simp_arith [c, c1, c1b]
        simpa [c, c1] using hr
  · unfold lawNear at h
    refine ⟨(List.range row.length).map fun k => decide ((row.take k).sum < row.getD k 0) || (decide (k = 1) && decide (row.getD 1 0 = row.getD 0 0)), by rw [List.map_map]; rfl, ?_⟩
    rw [List.all_map]
    exact h
end BB
set_option Elab.async false
set_option linter.all false
set_option maxRecDepth 100000
set_option autoImplicit false
set_option maxHeartbeats 2000000
/-! k59 -/
namespace BB
open PySem PySem.Spec PyProof.Rows L2
local macro_rules | `(tactic| simp_arith [$as,*]) => `(tactic| try simp [$as,*, -e_wbind, -e_wk, -e_wb2, -e_wb1, -e_wtest, -e_wand, -e_wor, -e_wnot, -e_wandV, -e_worV, -e_wnotV, -e_wif, -e_wchain, -e_wop, -e_witems, -e_sseq, -e_slift, -e_sdrop, -e_sret, -e_sif, -e_stry, -e_sapp, -e_sext, -e_runB, -e_sasg, -e_sasgF, -e_sasgT, -e_sfor, -e_wlst, -e_warg, -e_wnil, -e_wcons, -e_wnilC, -e_wconsC, -e_wtup, -e_wlis, -e_wlc, -e_wcall, -e_wsl, -e_wTupRg, -e_wLstRg, -e_wsel, ↓k_wbind, ↓k_wk, ↓k_wb2, ↓k_wb1, ↓k_wtest, ↓k_wand, ↓k_wor, ↓k_wnot, ↓k_wandV, ↓k_worV, ↓k_wnotV, ↓k_wif, ↓k_wchain, ↓k_wop, ↓k_witems, ↓k_sseq, ↓k_slift, ↓k_sdrop, ↓k_sret, ↓k_sif, ↓k_stry, ↓k_sapp, ↓k_sext, ↓k_wlst, ↓k_warg, ↓k_wnil, ↓k_wcons, ↓k_wnilC, ↓k_wconsC, ↓k_wtup, ↓k_wlis, ↓k_wlc, ↓k_wcall, ↓k_wsl, ↓k_wTupRg, ↓k_wLstRg, ↓k_wsel, ↓k_wrep, ↓k_wcat, ↓k_wlc2, ↓k_spop, ↓k_spopAt, ↓k_sdone, ↓k_wdget, ↓k_wdgetX, ↓k_sdput, ↓k_wdin, ↓k_wlenD, ↓k_wdc, ↓k_sasgD, ↓k_wsortD, ↓k_sdnew, ↓k_windex, ↓k_sset2, ↓k_slock, ↓k_wlock, ↓k_wkeysL, ↓k_wdinL, ↓k_sasg, ↓k_sasgF, ↓k_sasgT, ↓k_sfor, ↓k_runB, sizeLine_eq])
local macro_rules | `(tactic| simp_arith) => `(tactic| try simp [-e_wbind, -e_wk, -e_wb2, -e_wb1, -e_wtest, -e_wand, -e_wor, -e_wnot, -e_wandV, -e_worV, -e_wnotV, -e_wif, -e_wchain, -e_wop, -e_witems, -e_sseq, -e_slift, -e_sdrop, -e_sret, -e_sif, -e_stry, -e_sapp, -e_sext, -e_runB, -e_sasg, -e_sasgF, -e_sasgT, -e_sfor, -e_wlst, -e_warg, -e_wnil, -e_wcons, -e_wnilC, -e_wconsC, -e_wtup, -e_wlis, -e_wlc, -e_wcall, -e_wsl, -e_wTupRg, -e_wLstRg, -e_wsel, ↓k_wbind, ↓k_wk, ↓k_wb2, ↓k_wb1, ↓k_wtest, ↓k_wand, ↓k_wor, ↓k_wnot, ↓k_wandV, ↓k_worV, ↓k_wnotV, ↓k_wif, ↓k_wchain, ↓k_wop, ↓k_witems, ↓k_sseq, ↓k_slift, ↓k_sdrop, ↓k_sret, ↓k_sif, ↓k_stry, ↓k_sapp, ↓k_sext, ↓k_wlst, ↓k_warg, ↓k_wnil, ↓k_wcons, ↓k_wnilC, ↓k_wconsC, ↓k_wtup, ↓k_wlis, ↓k_wlc, ↓k_wcall, ↓k_wsl, ↓k_wTupRg, ↓k_wLstRg, ↓k_wsel, ↓k_wrep, ↓k_wcat, ↓k_wlc2, ↓k_spop, ↓k_spopAt, ↓k_sdone, ↓k_wdget, ↓k_wdgetX, ↓k_sdput, ↓k_wdin, ↓k_wlenD, ↓k_wdc, ↓k_sasgD, ↓k_wsortD, ↓k_sdnew, ↓k_windex, ↓k_sset2, ↓k_slock, ↓k_wlock, ↓k_wkeysL, ↓k_wdinL, ↓k_sasg, ↓k_sasgF, ↓k_sasgT, ↓k_sfor, ↓k_runB, sizeLine_eq])
def spec__law_drawn_ranks : Spec := fun cs b R => ∃ (m : Nat), cs = [.st, .val (.int (m : Int)), .val (.int 6)] ∧ 1 ≤ m ∧ m ≤ 32 ∧ 2 * m ≤ b ∧ ∀ (rs : List Int) (b' : Nat), Rks m rs → b ≤ b' + 2 * m → R (.ok (encI rs)) b'
theorem run__law_drawn_ranks (cs : List Cell) (b : Nat) (R : Except Er D → Nat → Prop) (h : spec__law_drawn_ranks cs b R) : cs.length = 3 ∧ runB 7 (b__law_drawn_ranks spec__law_next) cs b R := by
  obtain ⟨m, rfl, m1, m2, hb, h⟩ := h
  refine ⟨rfl, ?_⟩
  simp_arith [b__law_drawn_ranks, startE]
  rw [rangeD_nat]
  refine ⟨small_big (by omega) (by omega), by simp; omega, ?_⟩
  have ll : ((List.range m).map fun (i : Nat) => PyData.int (0 + (i : Int))).length = m := by simp
  refine wComp_dk 2 (fun _ y => ∃ x, y = PyData.int x ∧ (0 ≤ x ∧ x ≤ 1000)) (fun d hd b1 Rt hb1 hy => ?_) (by rw [ll]; omega) fun ys b1 hp hb1 => ?_
  · simp_arith
    refine next_at (by decide) (by omega) fun u u0 u1 => ?_
    have top : ∃ t : Int, atI [PyData.int 2, .int 3, .int 7, .int 6] u = some (.int t) ∧ 2 ≤ t ∧ t ≤ 7 := by
      have : u = 0 ∨ u = 1 ∨ u = 2 ∨ u = 3 := by omega
      rcases this with rfl | rfl | rfl | rfl
      · exact ⟨2, rfl, by decide, by decide⟩
      · exact ⟨3, rfl, by decide, by decide⟩
      · exact ⟨7, rfl, by decide, by decide⟩
      · exact ⟨6, rfl, by decide, by decide⟩
    obtain ⟨t, ht, t2, t3⟩ := top
    simp_arith
    refine ⟨_, ht, ?_⟩
    simp_arith
    refine next_at (by omega) (by omega) fun w w0 w1 => ?_
    exact hy _ _ ⟨w, rfl, w0, by omega⟩ (by omega)
  obtain ⟨ws, rfl, hl, hr⟩ := drawn_ints hp
  rw [ll] at hl hb1
  simp_arith
  refine ⟨ws, rfl, by omega, fun mn n1 n2 => ?_⟩
  simp_arith
  refine ⟨by omega, wComp_ak PyData.int (fun x => .int (x - mn)) (fun x hx Rt hr => ?_) ?_⟩
  · simp_arith; exact hr
  · simp_arith
    have := h (ws.map fun x => x - mn) b1 ⟨m1, m2, by rw [List.length_map, hl], fun x hx => ?_, ?_⟩ (by omega)
    · unfold encI at this
      rw [List.map_map] at this
      exact this
    · obtain ⟨y, hy, rfl⟩ := List.mem_map.1 hx
      have := n2 y hy
      have := hr y hy
      have := hr mn n1
      omega
    · exact List.mem_map.2 ⟨mn, n1, by omega⟩
def spec__law_drawn_set : Spec := fun cs b R => ∃ (m : Nat), cs = [.st, .val (.int (m : Int))] ∧ 1 ≤ m ∧ m ≤ 32 ∧ 1 + m ≤ b ∧ ∀ (x : Int) (b' : Nat), 0 ≤ x → x < 2 ^ m → b ≤ b' + (1 + m) → R (.ok (.int x)) b'
theorem run__law_drawn_set (cs : List Cell) (b : Nat) (R : Except Er D → Nat → Prop) (h : spec__law_drawn_set cs b R) : cs.length = 2 ∧ runB 4 (b__law_drawn_set spec__law_next) cs b R := by
  obtain ⟨m, rfl, m1, m2, hb, h⟩ := h
  refine ⟨rfl, ?_⟩
  simp_arith [b__law_drawn_set, startE]
  refine next_at (by decide) (by omega) fun v v0 v1 => ?_
  by_cases c : v = 0
  · subst c
    simp_arith
    refine next_at (by omega) (by omega) fun u u0 u1 => ?_
    obtain ⟨w, rfl⟩ : ∃ n : Nat, u = (n : Int) := ⟨u.toNat, by omega⟩
    simp_arith [shl1 (m := (w : Int)) (by omega) (by omega)]
    refine h _ _ (Int.pow_nonneg (by decide)) ?_ (by omega)
    rw [pow_cast, pow_cast]
    exact_mod_cast Nat.pow_lt_pow_right (by decide) (by omega)
  · have cb : (v == 0) = false := by simpa using c
    simp_arith [cb, c]
    rw [rangeD_nat]
    refine ⟨small_big (by omega) (by omega), by simp; omega, ?_⟩
    refine wComp_ds (fun (i : Nat) => PyData.int (0 + (i : Int))) 1 (fun w => .int (2 ^ w)) (fun w hw b1 Rf Rt hb1 h1 h2 => ?_) (by simp; omega) fun l b1 hl hb1 => ?_
    · have := List.mem_range.1 hw
      simp_arith
      refine next_at (by decide) (by omega) fun u u0 u1 => ?_
      simp_arith
      by_cases q : u < v
      · simp_arith [q, shl1 (m := (w : Int)) (by omega) (by omega)]
        exact h2 _ (by omega)
      · simp_arith [q]
        exact h1 _ (by omega)
    · refine ⟨l.map fun (w : Nat) => (2 : Int) ^ w, by rw [List.map_map]; rfl, ?_⟩
      rw [sum_sub hl]
      simp at hb1
      exact h _ _ setOf_range.1 setOf_range.2 (by omega)
def spec__law_drawn_weights : Spec := fun cs b R => ∃ (m : Nat), cs = [.st, .val (.int (m : Int))] ∧ 1 ≤ m ∧ m ≤ 5 ∧ 1 + m ≤ b ∧ ∀ (ws : List Int) (b' : Nat), Wts m ws → b ≤ b' + (1 + m) → R (.ok (encI ws)) b'
theorem run__law_drawn_weights (cs : List Cell) (b : Nat) (R : Except Er D → Nat → Prop) (h : spec__law_drawn_weights cs b R) : cs.length = 2 ∧ runB 5 (b__law_drawn_weights spec__law_next) cs b R := by
  obtain ⟨m, rfl, m1, m2, hb, h⟩ := h
  refine ⟨rfl, ?_⟩
  have ll : ((List.range m).map fun (i : Nat) => PyData.int (0 + (i : Int))).length = m := by simp
  have rest : ∀ (ws : List Int) (b' : Nat) (x2 x4 : Option Cell), ws.length = m → (∀ x ∈ ws, 0 ≤ x ∧ x ≤ 1000) → b ≤ b' + (1 + m) → sseq (sif (wtest (wb2 wEq (wk kMax (wvarT 3)) (wc (.int 0)))) (sset 3 (wc (.int 0)) (wc (.int 1))) (snil)) (sret (wk kTuple (wvarT 3))) [some .st, some (.val (.int (m : Int))), x2, some (.own (ws.map PyData.int)), x4] b' fun o b' => match o with
    | .nx _ => R (.ok .none) b'
    | .rt d => R (.ok d) b'
    | .er e => R (.error e) b'
    | .bk _ => False
    | .ct _ => False := fun ws b' x2 x4 hl rg hb' => by
    simp_arith
    refine ⟨ws, rfl, by omega, fun mx x1 x2 => ?_⟩
    by_cases c : mx = 0
    · have hi : L2.ixN ws.length 0 = some 0 := ixN_in (j := 0) (by decide) (by omega)
      simp_arith [c, hi]
      have e : ((ws.map PyData.int).set 0 (.int 1)) = (ws.set 0 1).map PyData.int := (List.map_set ..).symm
      rw [e]
      refine h _ _ ⟨m1, by omega, by rw [List.length_set, hl], fun x hx => ?_, 1, ?_, by decide⟩ (by omega)
      · rcases List.mem_or_eq_of_mem_set hx with z | z
        · have := rg x z; omega
        · subst z; decide
      · have z : 0 < ws.length := by omega
        exact List.mem_iff_getElem?.2 ⟨0, by rw [List.getElem?_set_self z]⟩
    · simp_arith [bne_f c, c]
      exact h ws _ ⟨m1, by omega, hl, fun x hx => by have := rg x hx; omega, mx, x1, c⟩ (by omega)
  simp_arith [b__law_drawn_weights, startE]
  refine next_at (by decide) (by omega) fun v v0 v1 => ?_
  by_cases c0 : v = 0
  · subst c0
    simp_arith
    rw [rangeD_nat]
    refine ⟨small_big (by omega) (by omega), by simp; omega, ?_⟩
    refine wComp_dk 1 (fun _ y => ∃ x, y = PyData.int x ∧ (0 ≤ x ∧ x ≤ 1000)) (fun d hd b1 Rt hb1 hy => ?_) (by rw [ll]; omega) fun ys b1 hp hb1 => ?_
    · simp_arith
      refine next_at (by omega) (by omega) fun u u0 u1 => ?_
      obtain ⟨w, rfl⟩ : ∃ n : Nat, u = (n : Int) := ⟨u.toNat, by omega⟩
      simp_arith [shl1 (m := (w : Int)) (by omega) (by omega)]
      refine hy _ _ ⟨_, rfl, Int.pow_nonneg (by decide), ?_⟩ (by omega)
      rw [pow_cast]
      have : 2 ^ w ≤ 2 ^ 7 := Nat.pow_le_pow_right (by decide) (by omega)
      have e : (2 : Nat) ^ 7 = 128 := by decide
      omega
    obtain ⟨ws, rfl, hl, hr⟩ := drawn_ints hp
    rw [ll] at hl hb1
    exact rest ws b1 _ _ hl hr (by omega)
  have cb : (v == 0) = false := by simpa using c0
  by_cases c1 : v = 1
  · subst c1
    simp_arith
    rw [rangeD_nat]
    refine ⟨small_big (by omega) (by omega), by simp; omega, ?_⟩
    refine wComp_ak (fun (i : Nat) => PyData.int (0 + (i : Int))) (fun k => .int (wv [1, 1, 2, 4, 9, 20] k)) (fun k hk Rt hr => ?_) ?_
    · have kl := List.mem_range.1 hk
      simp_arith
      have := atW (ws := [1, 1, 2, 4, 9, 20]) (w := k) (by simp; omega)
      exact ⟨_, this, hr⟩
    · have e : (List.range m).map (fun k => PyData.int (wv [1, 1, 2, 4, 9, 20] k)) = ((List.range m).map (wv [1, 1, 2, 4, 9, 20])).map PyData.int := by rw [List.map_map]; rfl
      rw [e]
      refine rest _ _ _ _ (by simp) (fun x hx => ?_) (by omega)
      obtain ⟨k, hk, rfl⟩ := List.mem_map.1 hx
      have kl := List.mem_range.1 hk
      have : wv [1, 1, 2, 4, 9, 20] k ∈ [1, 1, 2, 4, 9, 20] := wv_mem (by simp; omega)
      simp at this
      omega
  have cb1 : (v == 1) = false := by simpa using c1
  simp_arith [cb, cb1, c0, c1]
  rw [rangeD_nat]
  refine ⟨small_big (by omega) (by omega), by simp; omega, ?_⟩
  have top : ∃ t : Int, atI [PyData.int 3, .int 40] (v - 2) = some (.int t) ∧ 2 ≤ t ∧ t ≤ 40 := by
    have : v = 2 ∨ v = 3 := by omega
    rcases this with rfl | rfl
    · exact ⟨3, rfl, by decide, by decide⟩
    · exact ⟨40, rfl, by decide, by decide⟩
  obtain ⟨t, ht, t2, t3⟩ := top
  refine wComp_dk 1 (fun _ y => ∃ x, y = PyData.int x ∧ (0 ≤ x ∧ x ≤ 1000)) (fun d hd b1 Rt hb1 hy => ?_) (by rw [ll]; omega) fun ys b1 hp hb1 => ?_
  · simp_arith
    refine ⟨_, ht, ?_⟩
    simp_arith
    refine next_at (by omega) (by omega) fun u u0 u1 => ?_
    exact hy _ _ ⟨u, rfl, u0, by omega⟩ (by omega)
  obtain ⟨ws, rfl, hl, hr⟩ := drawn_ints hp
  rw [ll] at hl hb1
  exact rest ws b1 _ _ hl hr (by omega)
end BB
set_option Elab.async false
set_option linter.all false
set_option maxRecDepth 100000
set_option autoImplicit false
set_option maxHeartbeats 2000000
/-! k59 -/
namespace BB
open PySem PySem.Spec PyProof.Rows L2
local macro_rules | `(tactic| simp_arith [$as,*]) => `(tactic| try simp [$as,*, -e_wbind, -e_wk, -e_wb2, -e_wb1, -e_wtest, -e_wand, -e_wor, -e_wnot, -e_wandV, -e_worV, -e_wnotV, -e_wif, -e_wchain, -e_wop, -e_witems, -e_sseq, -e_slift, -e_sdrop, -e_sret, -e_sif, -e_stry, -e_sapp, -e_sext, -e_runB, -e_sasg, -e_sasgF, -e_sasgT, -e_sfor, -e_wlst, -e_warg, -e_wnil, -e_wcons, -e_wnilC, -e_wconsC, -e_wtup, -e_wlis, -e_wlc, -e_wcall, -e_wsl, -e_wTupRg, -e_wLstRg, -e_wsel, ↓k_wbind, ↓k_wk, ↓k_wb2, ↓k_wb1, ↓k_wtest, ↓k_wand, ↓k_wor, ↓k_wnot, ↓k_wandV, ↓k_worV, ↓k_wnotV, ↓k_wif, ↓k_wchain, ↓k_wop, ↓k_witems, ↓k_sseq, ↓k_slift, ↓k_sdrop, ↓k_sret, ↓k_sif, ↓k_stry, ↓k_sapp, ↓k_sext, ↓k_wlst, ↓k_warg, ↓k_wnil, ↓k_wcons, ↓k_wnilC, ↓k_wconsC, ↓k_wtup, ↓k_wlis, ↓k_wlc, ↓k_wcall, ↓k_wsl, ↓k_wTupRg, ↓k_wLstRg, ↓k_wsel, ↓k_wrep, ↓k_wcat, ↓k_wlc2, ↓k_spop, ↓k_spopAt, ↓k_sdone, ↓k_wdget, ↓k_wdgetX, ↓k_sdput, ↓k_wdin, ↓k_wlenD, ↓k_wdc, ↓k_sasgD, ↓k_wsortD, ↓k_sdnew, ↓k_windex, ↓k_sset2, ↓k_slock, ↓k_wlock, ↓k_wkeysL, ↓k_wdinL, ↓k_sasg, ↓k_sasgF, ↓k_sasgT, ↓k_sfor, ↓k_runB, sizeLine_eq])
local macro_rules | `(tactic| simp_arith) => `(tactic| try simp [-e_wbind, -e_wk, -e_wb2, -e_wb1, -e_wtest, -e_wand, -e_wor, -e_wnot, -e_wandV, -e_worV, -e_wnotV, -e_wif, -e_wchain, -e_wop, -e_witems, -e_sseq, -e_slift, -e_sdrop, -e_sret, -e_sif, -e_stry, -e_sapp, -e_sext, -e_runB, -e_sasg, -e_sasgF, -e_sasgT, -e_sfor, -e_wlst, -e_warg, -e_wnil, -e_wcons, -e_wnilC, -e_wconsC, -e_wtup, -e_wlis, -e_wlc, -e_wcall, -e_wsl, -e_wTupRg, -e_wLstRg, -e_wsel, ↓k_wbind, ↓k_wk, ↓k_wb2, ↓k_wb1, ↓k_wtest, ↓k_wand, ↓k_wor, ↓k_wnot, ↓k_wandV, ↓k_worV, ↓k_wnotV, ↓k_wif, ↓k_wchain, ↓k_wop, ↓k_witems, ↓k_sseq, ↓k_slift, ↓k_sdrop, ↓k_sret, ↓k_sif, ↓k_stry, ↓k_sapp, ↓k_sext, ↓k_wlst, ↓k_warg, ↓k_wnil, ↓k_wcons, ↓k_wnilC, ↓k_wconsC, ↓k_wtup, ↓k_wlis, ↓k_wlc, ↓k_wcall, ↓k_wsl, ↓k_wTupRg, ↓k_wLstRg, ↓k_wsel, ↓k_wrep, ↓k_wcat, ↓k_wlc2, ↓k_spop, ↓k_spopAt, ↓k_sdone, ↓k_wdget, ↓k_wdgetX, ↓k_sdput, ↓k_wdin, ↓k_wlenD, ↓k_wdc, ↓k_sasgD, ↓k_wsortD, ↓k_sdnew, ↓k_windex, ↓k_sset2, ↓k_slock, ↓k_wlock, ↓k_wkeysL, ↓k_wdinL, ↓k_sasg, ↓k_sasgF, ↓k_sasgT, ↓k_sfor, ↓k_runB, sizeLine_eq])
def ansE (k m : Int) (ws : List Int) : Except Er D := if k = 0 then bigsE m ws else if k = 1 then closE m ws else if k = 2 then partE m ws else strE m ws
def spec__law_told : Spec := fun cs b R => (∃ (k m : Int) (ws : List Int) (d e : D), cs = [.val (.int k), .val (.int m), .val (encI ws), .val d, .val e] ∧ 0 ≤ k ∧ k < 4 ∧ R (.ok (toldD (ansE k m ws))) b) ∨
  (∃ (m : Int) (ws : List Int) (one two : Int), cs = [.val (.int 4), .val (.int m), .val (encI ws), .val (.int one), .val (.int two)] ∧ R (.ok (toldD (accE m ws one two))) b) ∨
  (∃ (m : Int) (ws : List Int) (one : Int) (d : D), cs = [.val (.int 5), .val (.int m), .val (encI ws), .val (.int one), .val d] ∧ R (.ok (toldD (heavE m ws one))) b) ∨
  (∃ (m : Int) (ws rs : List Int) (d : D), cs = [.val (.int 6), .val (.int m), .val (encI ws), .val (encI rs), .val d] ∧ R (.ok (toldD (sameE m ws rs))) b) ∨
  ∃ (m : Int) (rs : List Int) (d e : D), cs = [.val (.int 7), .val (.int m), .val (encI rs), .val d, .val e] ∧ R (.ok (toldD (stwE m rs))) b
theorem run__law_told (cs : List Cell) (b : Nat) (R : Except Er D → Nat → Prop) (h : spec__law_told cs b R) : cs.length = 5 ∧ runB 6 (b__law_told spec_has_big_steps spec_closes spec_parting_sets spec_stepped_ranks spec_accepts spec_heaviest spec_same_as_ranks spec_stepped_weights) cs b R := by
  rcases h with ⟨k, m, ws, d, e, rfl, k0, k4, h⟩ | ⟨m, ws, one, two, rfl, h⟩ | ⟨m, ws, one, d, rfl, h⟩ | ⟨m, ws, rs, d, rfl, h⟩ | ⟨m, rs, d, e, rfl, h⟩
  · refine ⟨rfl, ?_⟩
    have : k = 0 ∨ k = 1 ∨ k = 2 ∨ k = 3 := by omega
    rcases this with rfl | rfl | rfl | rfl <;> simp only [ansE, ↓reduceIte, Int.reduceEq] at h <;> simp_arith [b__law_told, startE, atI, ixN]
    · refine ⟨m, ws, rfl, ?_⟩
      generalize bigsE m ws = X at h ⊢
      cases X with
      | error z => exact h
      | ok d => simp_arith; exact h
    · refine ⟨m, ws, rfl, ?_⟩
      generalize closE m ws = X at h ⊢
      cases X with
      | error z => exact h
      | ok d => simp_arith; exact h
    · refine ⟨m, ws, rfl, ?_⟩
      generalize partE m ws = X at h ⊢
      cases X with
      | error z => exact h
      | ok d => simp_arith; exact h
    · refine ⟨m, ws, rfl, ?_⟩
      generalize strE m ws = X at h ⊢
      cases X with
      | error z => exact h
      | ok d => simp_arith; exact h
  · refine ⟨rfl, ?_⟩
    simp_arith [b__law_told, startE]
    refine ⟨m, ws, one, two, rfl, ?_⟩
    generalize accE m ws one two = X at h ⊢
    cases X with
    | error z => exact h
    | ok d => simp_arith; exact h
  · refine ⟨rfl, ?_⟩
    simp_arith [b__law_told, startE]
    refine ⟨m, ws, one, rfl, ?_⟩
    generalize heavE m ws one = X at h ⊢
    cases X with
    | error z => exact h
    | ok d => simp_arith; exact h
  · refine ⟨rfl, ?_⟩
    simp_arith [b__law_told, startE]
    refine ⟨m, ws, rs, rfl, ?_⟩
    generalize sameE m ws rs = X at h ⊢
    cases X with
    | error z => exact h
    | ok d => simp_arith; exact h
  · refine ⟨rfl, ?_⟩
    simp_arith [b__law_told, startE]
    refine ⟨m, rs, rfl, ?_⟩
    generalize stwE m rs = X at h ⊢
    cases X with
    | error z => exact h
    | ok d => simp_arith; exact h
end BB
set_option Elab.async false
set_option linter.all false
set_option maxRecDepth 100000
set_option autoImplicit false
set_option maxHeartbeats 2000000
/-! k59 -/
namespace BB
open PySem PySem.Spec PyProof.Rows L2
local macro_rules | `(tactic| simp_arith [$as,*]) => `(tactic| try simp [$as,*, -e_wbind, -e_wk, -e_wb2, -e_wb1, -e_wtest, -e_wand, -e_wor, -e_wnot, -e_wandV, -e_worV, -e_wnotV, -e_wif, -e_wchain, -e_wop, -e_witems, -e_sseq, -e_slift, -e_sdrop, -e_sret, -e_sif, -e_stry, -e_sapp, -e_sext, -e_runB, -e_sasg, -e_sasgF, -e_sasgT, -e_sfor, -e_wlst, -e_warg, -e_wnil, -e_wcons, -e_wnilC, -e_wconsC, -e_wtup, -e_wlis, -e_wlc, -e_wcall, -e_wsl, -e_wTupRg, -e_wLstRg, -e_wsel, ↓k_wbind, ↓k_wk, ↓k_wb2, ↓k_wb1, ↓k_wtest, ↓k_wand, ↓k_wor, ↓k_wnot, ↓k_wandV, ↓k_worV, ↓k_wnotV, ↓k_wif, ↓k_wchain, ↓k_wop, ↓k_witems, ↓k_sseq, ↓k_slift, ↓k_sdrop, ↓k_sret, ↓k_sif, ↓k_stry, ↓k_sapp, ↓k_sext, ↓k_wlst, ↓k_warg, ↓k_wnil, ↓k_wcons, ↓k_wnilC, ↓k_wconsC, ↓k_wtup, ↓k_wlis, ↓k_wlc, ↓k_wcall, ↓k_wsl, ↓k_wTupRg, ↓k_wLstRg, ↓k_wsel, ↓k_wrep, ↓k_wcat, ↓k_wlc2, ↓k_spop, ↓k_spopAt, ↓k_sdone, ↓k_wdget, ↓k_wdgetX, ↓k_sdput, ↓k_wdin, ↓k_wlenD, ↓k_wdc, ↓k_sasgD, ↓k_wsortD, ↓k_sdnew, ↓k_windex, ↓k_sset2, ↓k_slock, ↓k_wlock, ↓k_wkeysL, ↓k_wdinL, ↓k_sasg, ↓k_sasgF, ↓k_sasgT, ↓k_sfor, ↓k_runB, sizeLine_eq])
local macro_rules | `(tactic| simp_arith) => `(tactic| try simp [-e_wbind, -e_wk, -e_wb2, -e_wb1, -e_wtest, -e_wand, -e_wor, -e_wnot, -e_wandV, -e_worV, -e_wnotV, -e_wif, -e_wchain, -e_wop, -e_witems, -e_sseq, -e_slift, -e_sdrop, -e_sret, -e_sif, -e_stry, -e_sapp, -e_sext, -e_runB, -e_sasg, -e_sasgF, -e_sasgT, -e_sfor, -e_wlst, -e_warg, -e_wnil, -e_wcons, -e_wnilC, -e_wconsC, -e_wtup, -e_wlis, -e_wlc, -e_wcall, -e_wsl, -e_wTupRg, -e_wLstRg, -e_wsel, ↓k_wbind, ↓k_wk, ↓k_wb2, ↓k_wb1, ↓k_wtest, ↓k_wand, ↓k_wor, ↓k_wnot, ↓k_wandV, ↓k_worV, ↓k_wnotV, ↓k_wif, ↓k_wchain, ↓k_wop, ↓k_witems, ↓k_sseq, ↓k_slift, ↓k_sdrop, ↓k_sret, ↓k_sif, ↓k_stry, ↓k_sapp, ↓k_sext, ↓k_wlst, ↓k_warg, ↓k_wnil, ↓k_wcons, ↓k_wnilC, ↓k_wconsC, ↓k_wtup, ↓k_wlis, ↓k_wlc, ↓k_wcall, ↓k_wsl, ↓k_wTupRg, ↓k_wLstRg, ↓k_wsel, ↓k_wrep, ↓k_wcat, ↓k_wlc2, ↓k_spop, ↓k_spopAt, ↓k_sdone, ↓k_wdget, ↓k_wdgetX, ↓k_sdput, ↓k_wdin, ↓k_wlenD, ↓k_wdc, ↓k_sasgD, ↓k_wsortD, ↓k_sdnew, ↓k_windex, ↓k_sset2, ↓k_slock, ↓k_wlock, ↓k_wkeysL, ↓k_wdinL, ↓k_sasg, ↓k_sasgF, ↓k_sasgT, ↓k_sfor, ↓k_runB, sizeLine_eq])
def c__law_fits_16 (s__law_drawn_weights s__law_parts s__law_nearly s__law_stepped s__law_alike s__law_told s__law_same s__law_accepted s__law_drawn_set s__law_weight s__law_drawn_ranks : Spec) : SW := sseq (sasg 19 (wcall (wconsC (wvarC 0) (wconsC (warg (wvar 1)) (wconsC (warg (wc (.int 6))) (wnilC)))) s__law_drawn_ranks)) (sseq (sasgF 20 (wlis (wcons (wtup (wcons (wc (.str "told")) (wcons (wb2 wGt (wcall (wconsC (warg (wvar 2)) (wconsC (warg (wb2 wAnd (wvarT 12) (wvarT 5))) (wnilC))) s__law_weight) (wcall (wconsC (warg (wvar 2)) (wconsC (warg (wb2 wAnd (wvarT 5) (wb1 (wI1 Builtin.bitNot) (wvarT 12)))) (wnilC))) s__law_weight)) (wnil)))) (wcons (wvar 18) (wcons (wtup (wcons (wc (.str "told")) (wcons (wcall (wconsC (warg (wvar 2)) (wconsC (warg (wvar 19)) (wnilC))) s__law_alike) (wnil)))) (wnil)))))) (sfrz 20 (sret (wandV (wcall (wconsC (warg (wlst (wlis (wcons (wcall (wconsC (warg (wc (.int 4))) (wconsC (warg (wvar 1)) (wconsC (warg (wvar 2)) (wconsC (warg (wvar 12)) (wconsC (warg (wvar 5)) (wnilC)))))) s__law_told) (wcons (wcall (wconsC (warg (wc (.int 5))) (wconsC (warg (wvar 1)) (wconsC (warg (wvar 2)) (wconsC (warg (wvar 12)) (wconsC (warg (wc (.int 0))) (wnilC)))))) s__law_told) (wcons (wcall (wconsC (warg (wc (.int 6))) (wconsC (warg (wvar 1)) (wconsC (warg (wvar 2)) (wconsC (warg (wvar 19)) (wconsC (warg (wc (.int 0))) (wnilC)))))) s__law_told) (wnil))))))) (wconsC (warg (wvar 20)) (wnilC))) s__law_same) (wb2 wEq (wk kRepr (wvarT 2)) (wvarT 3))))))
def c__law_fits_11 (s__law_drawn_weights s__law_parts s__law_nearly s__law_stepped s__law_alike s__law_told s__law_same s__law_accepted s__law_drawn_set s__law_weight s__law_drawn_ranks : Spec) : SW := sseq (sasg 12 (wcall (wconsC (wvarC 0) (wconsC (warg (wvar 1)) (wnilC))) s__law_drawn_set)) (sseq (sasg 5 (wcall (wconsC (wvarC 0) (wconsC (warg (wvar 1)) (wnilC))) s__law_drawn_set)) (sseq (sasgF 16 (wlc (wk kRange1 (wcons (wvar 1) (wnil))) [17] (tgn 17) (wand (fun δ => wbind ((wb2 wAnd (wb2 wShr (wvarT 12) (wvarT 17)) (wc (.int 1))) δ) wtru) (wtest (wb2 wGt (wb2 wMulT (wc (.int 2)) (wb2 wIx (wvarT 2) (wvarT 17))) (wcall (wconsC (warg (wvar 2)) (wconsC (warg (wvar 12)) (wnilC))) s__law_weight)))) (wvar 17))) (sseq (sasg 18 (wc (.str "missing"))) (sseq (sif (wtest (wb2 wGt (wk kLen (wvarT 16)) (wc (.int 0)))) (sasg 18 (wtup (wcons (wc (.str "told")) (wcons (wb2 wIx (wvarT 16) (wc (.int 0))) (wnil))))) (snil)) (c__law_fits_16 s__law_drawn_weights s__law_parts s__law_nearly s__law_stepped s__law_alike s__law_told s__law_same s__law_accepted s__law_drawn_set s__law_weight s__law_drawn_ranks)))))
def c__law_fits_10 (s__law_drawn_weights s__law_parts s__law_nearly s__law_stepped s__law_alike s__law_told s__law_same s__law_accepted s__law_drawn_set s__law_weight s__law_drawn_ranks : Spec) : SW := sseq (sif (fun δ => wbind ((wvarT 4) δ) wtru) (sseq (sasgT (tgt 3 (tgs1 (tgn 12) (tgs1 (tgn 13) (tgs1 (tgn 5) (tgs0))))) (wb2 wIx (wvarT 11) (wc (.int 1))))
  (sseq (sasg 14 (wcall (wconsC (warg (wvar 2)) (wconsC (warg (wvar 5)) (wnilC))) s__law_accepted))
  (sseq (sasgF 15 (wlis (wcons (wb2 wAnd (wvarT 12) (wvarT 5)) (wcons (wb2 wAnd (wvarT 13) (wvarT 5)) (wnil)))))
  (sif (wor (wtest (wb2 (kIn true) (wb2 wIx (wvarT 15) (wc (.int 0))) (wvarT 14))) (wor (wtest (wb2 (kIn true) (wb2 wIx (wvarT 15) (wc (.int 1))) (wvarT 14))) (wtest (wb2 (kIn false) (wb2 wAnd (wb2 wIx (wvarT 15) (wc (.int 0))) (wb2 wIx (wvarT 15) (wc (.int 1)))) (wvarT 14))))) (sret (wc (.bool false))) (snil))))) (snil)) (c__law_fits_11 s__law_drawn_weights s__law_parts s__law_nearly s__law_stepped s__law_alike s__law_told s__law_same s__law_accepted s__law_drawn_set s__law_weight s__law_drawn_ranks)
def c__law_fits_7 (s__law_drawn_weights s__law_parts s__law_nearly s__law_stepped s__law_alike s__law_told s__law_same s__law_accepted s__law_drawn_set s__law_weight s__law_drawn_ranks : Spec) : SW := sseq (sasgF 9 (wlc (witems (wlst (wlis (wcons (wc (.int 0)) (wcons (wc (.int 1)) (wcons (wc (.int 3)) (wnil))))))) [10] (tgn 10) (wyes) (wcall (wconsC (warg (wvar 10)) (wconsC (warg (wvar 1)) (wconsC (warg (wvar 2)) (wconsC (warg (wc (.int 0))) (wconsC (warg (wc (.int 0))) (wnilC)))))) s__law_told))) (sseq (sasg 11 (wcall (wconsC (warg (wc (.int 2))) (wconsC (warg (wvar 1)) (wconsC (warg (wvar 2)) (wconsC (warg (wc (.int 0))) (wconsC (warg (wc (.int 0))) (wnilC)))))) s__law_told)) (sseq (sfrz 9 (sif (wor (wnot (fun δ => wbind ((wcall (wconsC (warg (wvar 9)) (wconsC (warg (wlst (wlis (wcons (wtup (wcons (wc (.str "told")) (wcons (wvar 6) (wnil)))) (wcons (wtup (wcons (wc (.str "told")) (wcons (wnotV (wvar 4)) (wnil)))) (wcons (wvar 7) (wnil))))))) (wnilC))) s__law_same) δ) wtru)) (wtest (wb2 wEq (wb2 wEq (wvarT 11) (wc (.str "missing"))) (wvarT 4)))) (sret (wc (.bool false))) (snil))) (c__law_fits_10 s__law_drawn_weights s__law_parts s__law_nearly s__law_stepped s__law_alike s__law_told s__law_same s__law_accepted s__law_drawn_set s__law_weight s__law_drawn_ranks)))
def c__law_fits_5 (s__law_drawn_weights s__law_parts s__law_nearly s__law_stepped s__law_alike s__law_told s__law_same s__law_accepted s__law_drawn_set s__law_weight s__law_drawn_ranks : Spec) : SW := sseq (sasg 7 (wc (.str "missing"))) (sseq (sif (wand (fun δ => wbind ((wvarT 6) δ) wtru) (wtest (wb2 wGt (wk kMinX (wvarT 2)) (wc (.int 0))))) (sseq (sasg 7 (wtup (wcons (wc (.str "told")) (wcons (wk kTuple (wlst (wlc (witems (wvarT 2)) [8] (tgn 8) (wyes) (windex (wlst (wk kSortedRev (wvarT 2))) (wvar 8))))) (wnil)))))
  (sif (wnot (fun δ => wbind ((wcall (wconsC (warg (wvar 2)) (wconsC (warg (wb2 wIx (wvarT 7) (wc (.int 1)))) (wnilC))) s__law_alike) δ) wtru)) (sret (wc (.bool false))) (snil))) (snil)) (c__law_fits_7 s__law_drawn_weights s__law_parts s__law_nearly s__law_stepped s__law_alike s__law_told s__law_same s__law_accepted s__law_drawn_set s__law_weight s__law_drawn_ranks))
def c__law_fits_3 (s__law_drawn_weights s__law_parts s__law_nearly s__law_stepped s__law_alike s__law_told s__law_same s__law_accepted s__law_drawn_set s__law_weight s__law_drawn_ranks : Spec) : SW := sseq (sif (wtest (wb2 wEq (wvarT 4) (wcall (wconsC (warg (wvar 2)) (wnilC)) s__law_nearly))) (sret (wc (.bool false))) (snil)) (sseq (sasg 6 (wcall (wconsC (warg (wvar 2)) (wnilC)) s__law_stepped)) (c__law_fits_5 s__law_drawn_weights s__law_parts s__law_nearly s__law_stepped s__law_alike s__law_told s__law_same s__law_accepted s__law_drawn_set s__law_weight s__law_drawn_ranks))
theorem b__law_fits_cut {s__law_drawn_weights s__law_parts s__law_nearly s__law_stepped s__law_alike s__law_told s__law_same s__law_accepted s__law_drawn_set s__law_weight s__law_drawn_ranks : Spec} : b__law_fits s__law_drawn_weights s__law_parts s__law_nearly s__law_stepped s__law_alike s__law_told s__law_same s__law_accepted s__law_drawn_set s__law_weight s__law_drawn_ranks = sseq (sasg 2 (wcall (wconsC (wvarC 0) (wconsC (warg (wvar 1)) (wnilC))) s__law_drawn_weights)) (sseq (sasg 3 (wk kRepr (wvarT 2))) (sseq (sasg 4 (wk kAny (wlst (wlc (wk kRange2 (wcons (wc (.int 1)) (wcons (wb2 wShl (wc (.int 1)) (wvarT 1)) (wnil)))) [5] (tgn 5) (wyes) (wcall (wconsC (warg (wvar 2)) (wconsC (warg (wvar 5)) (wnilC))) s__law_parts))))) (c__law_fits_3 s__law_drawn_weights s__law_parts s__law_nearly s__law_stepped s__law_alike s__law_told s__law_same s__law_accepted s__law_drawn_set s__law_weight s__law_drawn_ranks))) := rfl
def parted (m : Nat) (ws : List Int) : Bool := (List.range (2 ^ m - 1)).any fun (i : Nat) => partsB m ws (1 + (i : Int))
theorem parted_near {m : Nat} {ws : List Int} (W : Wts m ws) : parted m ws = !lawNear (rowW ws) := by
  have hl := W.len
  have e : parted m ws = true ↔ lawNear (rowW ws) = false := by
    unfold parted
    rw [List.any_eq_true]
    constructor
    · rintro ⟨i, hi, h⟩
      have o := oth (List.mem_range.1 hi)
      obtain ⟨T, c⟩ := (parts_iff hl W.rg o).1 h
      cases q : lawNear (rowW ws) with
      | false => rfl
      | true =>
        rw [(clos_iff W.rg T).2 (near_dict W.rg rowW_of q T)] at c
        cases c
    · intro h
      refine Classical.byContradiction fun z => ?_
      have : lawNear (rowW ws) = true := dict_near W.rg rowW_of fun other o0 o1 T => by
        rw [hl] at o1
        have nz : other ≠ 0 := fun e => by rw [e, wsum_zero] at T; omega
        refine (clos_iff W.rg T).1 ?_
        cases q : clos ws other with
        | true => rfl
        | false =>
          refine absurd ⟨(other - 1).toNat, List.mem_range.2 (by rw [pow_cast] at o1; omega), ?_⟩ z
          rw [show 1 + (((other - 1).toNat : Nat) : Int) = other by omega]
          exact (parts_iff hl W.rg ⟨o0, o1⟩).2 ⟨T, q⟩
      rw [this] at h; cases h
  cases q : lawNear (rowW ws) with
  | false => exact e.2 q
  | true =>
    cases z : parted m ws with
    | false => rfl
    | true => rw [e.1 z] at q; cases q
theorem clos_parted {m : Nat} {ws : List Int} (W : Wts m ws) : closB m ws = !parted m ws := by
  have hl := W.len
  have e : closB m ws = false ↔ parted m ws = true := by
    unfold closB parted
    rw [List.any_eq_true, List.all_eq_false]
    constructor
    · rintro ⟨i, hi, h⟩
      rw [List.mem_filter, decide_eq_true_iff] at hi
      have o := oth (List.mem_range.1 hi.1)
      exact ⟨i, hi.1, (parts_iff hl W.rg o).2 ⟨hi.2, by simpa using h⟩⟩
    · rintro ⟨i, hi, h⟩
      have o := oth (List.mem_range.1 hi)
      obtain ⟨T, c⟩ := (parts_iff hl W.rg o).1 h
      exact ⟨i, List.mem_filter.2 ⟨hi, decide_eq_true T⟩, by rw [c]; decide⟩
  cases q : parted m ws with
  | true => exact e.2 q
  | false =>
    cases z : closB m ws with
    | true => rfl
    | false => rw [e.1 z] at q; cases q
theorem partAll_nil {m : Nat} {ws : List Int} : partAll m ws (List.range (2 ^ m - 1)) = [] ↔ parted m ws = false := by
  unfold partAll parted
  rw [List.flatMap_eq_nil_iff, List.any_eq_false]
  refine forall_congr' fun i => forall_congr' fun hi => ?_
  unfold partOf partsB
  rw [List.flatMap_eq_nil_iff, Bool.not_eq_true, List.any_eq_false]
  refine forall_congr' fun a => forall_congr' fun ha => ?_
  rw [List.map_eq_nil_iff, List.filter_eq_nil_iff, Bool.not_eq_true, List.any_eq_false]
theorem partAll_mem {m : Nat} {ws : List Int} {d : D} (h : d ∈ partAll m ws (List.range (2 ^ m - 1))) : ∃ (i a b : Nat), i < 2 ^ m - 1 ∧ a ∈ accL m ws (1 + (i : Int)) ∧ b ∈ accL m ws (1 + (i : Int)) ∧ a &&& b ∉ accL m ws (1 + (i : Int)) ∧ d = tri a b (1 + (i : Int)) := by
  unfold partAll partOf at h
  rw [List.mem_flatMap] at h
  obtain ⟨i, hi, h⟩ := h
  rw [List.mem_flatMap] at h
  obtain ⟨a, ha, h⟩ := h
  rw [List.mem_map] at h
  obtain ⟨b, hb, rfl⟩ := h
  rw [List.mem_filter] at hb
  exact ⟨i, a, b, List.mem_range.1 hi, ha, hb.1, by simpa using hb.2, rfl⟩
theorem rep1 {d : D} {dp wt : Nat} (h : Sm dp wt d) (hd : dp ≤ 50) (hw : wt ≤ 500000) : reprOk (.list [d]) :=
  (sm_list (n := 1) (fun x hx => by rw [List.mem_singleton] at hx; subst hx; exact h) (by simp)).repr (by omega) (by omega)
theorem sm_str10 {x : Str} (h : PyData.strOk x = true) (hl : x.cps.size ≤ 10) : Sm 0 10 (.str x) := sm_str h hl
theorem sm_nat {w : Nat} (h : w ≤ 999999999999) : Sm 0 40 (.int (w : Int)) := sm_int (by omega) (by omega)
theorem and_comm' {x y : Int} : Builtin.bitAnd x y = Builtin.bitAnd y x := ib_ext fun i => by rw [ib_and, ib_and, Bool.and_comm]
section
variable {m : Nat} {ws : List Int} {b : Nat} {R : Out → Nat → Prop} {x4 x5 x6 x7 x8 x9 x10 x11 x12 x13 x14 x15 x16 x17 x18 x19 x20 : Option Cell}
theorem lf16 {one other : Int} {fst : D} (W : Wts m ws) (m5 : m ≤ 5) (hr : reprOk (encI ws)) (hb : 2 * m ≤ b) (e4 : accE (m : Int) ws one other = .ok (.bool (decide (wsum ws (Builtin.bitAnd other (Builtin.bitNot one)) < wsum ws (Builtin.bitAnd one other))))) (e5 : toldD (heavE (m : Int) ws one) = fst) (sf : Sm 1 82 fst) (h : ∀ b', b ≤ b' + 2 * m → R (.rt (.bool true)) b') :
    c__law_fits_16 spec__law_drawn_weights spec__law_parts spec__law_nearly spec__law_stepped spec__law_alike spec__law_told spec__law_same spec__law_accepted spec__law_drawn_set spec__law_weight spec__law_drawn_ranks [some .st, some (.val (.int (m : Int))), some (.val (encI ws)), some (.val (.str (encI ws).shown)), x4, some (.val (.int other)), x6, x7, x8, x9, x10, x11, some (.val (.int one)), x13, x14, x15, x16, x17, some (.val fst), x19, x20] b R := by
  have hl := W.len
  have m1 := W.m1
  have kr : ∀ {b : Nat} {R : Except Er D → Nat → Prop}, kRepr (encI ws) b R = (reprOk (encI ws) ∧ R (.ok (.str (encI ws).shown)) b) := fun {b R} => rfl
  simp_arith [c__law_fits_16]
  refine ⟨m, rfl, m1, by omega, by omega, fun rs b1 K hb1 => ?_⟩
  have e6 : sameE (m : Int) ws rs = .ok (.bool (alikeB m ws rs)) := by
    unfold sameE
    rw [W.is, K.is]
    show (if 6 < (m : Int) then _ else _) = _
    rw [if_neg (by omega), Int.toNat_natCast]
  simp_arith
  refine ⟨ws, _, rfl, by omega, ?_⟩
  simp_arith
  refine ⟨ws, _, rfl, by omega, ?_⟩
  simp_arith
  refine ⟨m, ws, rs, rfl, hl, K.len, by omega, fun x hx => (K.rg x hx).2, ?_⟩
  simp_arith
  refine .inr (.inl ⟨(m : Int), ws, one, other, rfl, ?_⟩)
  rw [e4]
  simp_arith
  refine .inr (.inr (.inl ⟨(m : Int), ws, one, _, rfl, ?_⟩))
  rw [e5]
  simp_arith
  refine .inr (.inr (.inr (.inl ⟨(m : Int), ws, rs, _, rfl, ?_⟩)))
  rw [e6]
  simp_arith [toldD]
  refine ⟨_, _, rfl, rfl, ?_, ?_⟩
  · exact rep1 (sm_list (n := 3) (dp := 1) (wt := 100) (sma_cons (sm_toldB.mono (by decide) (by decide)) (sma_cons (sf.mono (by decide) (by decide)) (sma_cons (sm_toldB.mono (by decide) (by decide)) sma_nil))) (by simp)) (by decide) (by decide)
  simp_arith [kr]
  have es : ∀ s : Str, PyData.eqv (.str s) (.str s) = true := fun s => by simp [PyData.eqv]
  refine ⟨hr, ?_⟩
  rw [es]
  exact h _ (by omega)
theorem lf11 (W : Wts m ws) (m5 : m ≤ 5) (hr : reprOk (encI ws)) (hb : 30 ≤ b) (h : ∀ b', b ≤ b' + 30 → R (.rt (.bool true)) b') :
    c__law_fits_11 spec__law_drawn_weights spec__law_parts spec__law_nearly spec__law_stepped spec__law_alike spec__law_told spec__law_same spec__law_accepted spec__law_drawn_set spec__law_weight spec__law_drawn_ranks [some .st, some (.val (.int (m : Int))), some (.val (encI ws)), some (.val (.str (encI ws).shown)), x4, x5, x6, x7, x8, x9, x10, x11, x12, x13, x14, x15, x16, x17, x18, x19, x20] b R := by
  have hl := W.len
  have m1 := W.m1
  have kr : ∀ {b : Nat} {R : Except Er D → Nat → Prop}, kRepr (encI ws) b R = (reprOk (encI ws) ∧ R (.ok (.str (encI ws).shown)) b) := fun {b R} => rfl
  simp_arith [c__law_fits_11]
  refine ⟨m, rfl, m1, by omega, by omega, fun one b1 o0 o1 hb1 => ?_⟩
  simp_arith
  refine ⟨m, rfl, m1, by omega, by omega, fun other b2 p0 p1 hb2 => ?_⟩
  simp_arith
  rw [rangeD_nat]
  refine ⟨small_big (by omega) (by omega), by simp; omega, ?_⟩
  refine wComp_xk (fun (i : Nat) => PyData.int (0 + (i : Int))) (fun w => ib one w && decide (wsum ws one < 2 * wv ws w)) (fun (w : Nat) => .int (w : Int)) (fun w hw Rf Rt h1 h2 => ?_) ?_
  · have wl := List.mem_range.1 hw
    have wr := wv_rg W.rg w
    have cm : CMulX 2 (wv ws w) := mul2 (by omega)
    simp_arith [bit_ne]
    cases q : ib one w with
    | true =>
      simp_arith [encI]
      refine ⟨_, atW (by omega), ?_⟩
      simp_arith [cm]
      refine ⟨ws, one, rfl, by omega, ?_⟩
      by_cases c : wsum ws one < 2 * wv ws w
      · simp_arith [c]
        exact h2 (by rw [q, decide_eq_true c]; rfl)
      · simp_arith [c]
        exact h1 (by rw [decide_eq_false c, Bool.and_false])
    | false => simp_arith; exact h1 (by rw [q]; rfl)
  have eh : (List.range m).filter (fun w => ib one w && decide (wsum ws one < 2 * wv ws w)) = heavyL m ws one := rfl
  rw [eh]
  have c1 : checkSet (m : Int) one = .ok .none := checkSet_is (by omega) ⟨o0, by rw [Int.toNat_natCast]; exact o1⟩
  have c2 : checkSet (m : Int) other = .ok .none := checkSet_is (by omega) ⟨p0, by rw [Int.toNat_natCast]; exact p1⟩
  have e4 : accE (m : Int) ws one other = .ok (.bool (decide (wsum ws (Builtin.bitAnd other (Builtin.bitNot one)) < wsum ws (Builtin.bitAnd one other)))) := by
    unfold accE
    rw [W.is, c1, c2, and_comm' (x := one)]; rfl
  have e5 : heavE (m : Int) ws one = firstN (heavyL m ws one) := by
    unfold heavE
    rw [W.is, c1, Int.toNat_natCast]; rfl
  have hm : ∀ w ∈ heavyL m ws one, w < m := fun w hw => List.mem_range.1 (List.mem_filter.1 hw).1
  generalize heavyL m ws one = L at e5 hm ⊢
  cases L with
  | nil =>
    simp_arith
    exact lf16 W m5 hr (by omega) e4 (by rw [e5]; rfl) ((sm_str10 (by decide +kernel) (by decide +kernel)).mono (by decide) (by decide)) fun b' hb' => h b' (by omega)
  | cons w l =>
    have wl := hm w List.mem_cons_self
    have z0 : (0 : Int) < (l.length : Int) + 1 := by omega
    have a0 : atI (PyData.int (w : Int) :: l.map fun (a : Nat) => PyData.int (a : Int)) 0 = some (.int (w : Int)) := atI_nat (i := 0) rfl
    rw [List.map_cons]
    simp_arith [a0, z0]
    exact lf16 W m5 hr (by omega) e4 (by rw [e5]; rfl) ((sm_told (sm_nat (w := w) (by omega)) (by decide)).mono (by decide) (by decide)) fun b' hb' => h b' (by omega)
end
end BB
set_option Elab.async false
set_option linter.all false
set_option maxRecDepth 100000
set_option autoImplicit false
set_option maxHeartbeats 2000000
/-! k59 -/
namespace BB
open PySem PySem.Spec PyProof.Rows L2
local macro_rules | `(tactic| simp_arith [$as,*]) => `(tactic| try simp [$as,*, -e_wbind, -e_wk, -e_wb2, -e_wb1, -e_wtest, -e_wand, -e_wor, -e_wnot, -e_wandV, -e_worV, -e_wnotV, -e_wif, -e_wchain, -e_wop, -e_witems, -e_sseq, -e_slift, -e_sdrop, -e_sret, -e_sif, -e_stry, -e_sapp, -e_sext, -e_runB, -e_sasg, -e_sasgF, -e_sasgT, -e_sfor, -e_wlst, -e_warg, -e_wnil, -e_wcons, -e_wnilC, -e_wconsC, -e_wtup, -e_wlis, -e_wlc, -e_wcall, -e_wsl, -e_wTupRg, -e_wLstRg, -e_wsel, ↓k_wbind, ↓k_wk, ↓k_wb2, ↓k_wb1, ↓k_wtest, ↓k_wand, ↓k_wor, ↓k_wnot, ↓k_wandV, ↓k_worV, ↓k_wnotV, ↓k_wif, ↓k_wchain, ↓k_wop, ↓k_witems, ↓k_sseq, ↓k_slift, ↓k_sdrop, ↓k_sret, ↓k_sif, ↓k_stry, ↓k_sapp, ↓k_sext, ↓k_wlst, ↓k_warg, ↓k_wnil, ↓k_wcons, ↓k_wnilC, ↓k_wconsC, ↓k_wtup, ↓k_wlis, ↓k_wlc, ↓k_wcall, ↓k_wsl, ↓k_wTupRg, ↓k_wLstRg, ↓k_wsel, ↓k_wrep, ↓k_wcat, ↓k_wlc2, ↓k_spop, ↓k_spopAt, ↓k_sdone, ↓k_wdget, ↓k_wdgetX, ↓k_sdput, ↓k_wdin, ↓k_wlenD, ↓k_wdc, ↓k_sasgD, ↓k_wsortD, ↓k_sdnew, ↓k_windex, ↓k_sset2, ↓k_slock, ↓k_wlock, ↓k_wkeysL, ↓k_wdinL, ↓k_sasg, ↓k_sasgF, ↓k_sasgT, ↓k_sfor, ↓k_runB, sizeLine_eq])
local macro_rules | `(tactic| simp_arith) => `(tactic| try simp [-e_wbind, -e_wk, -e_wb2, -e_wb1, -e_wtest, -e_wand, -e_wor, -e_wnot, -e_wandV, -e_worV, -e_wnotV, -e_wif, -e_wchain, -e_wop, -e_witems, -e_sseq, -e_slift, -e_sdrop, -e_sret, -e_sif, -e_stry, -e_sapp, -e_sext, -e_runB, -e_sasg, -e_sasgF, -e_sasgT, -e_sfor, -e_wlst, -e_warg, -e_wnil, -e_wcons, -e_wnilC, -e_wconsC, -e_wtup, -e_wlis, -e_wlc, -e_wcall, -e_wsl, -e_wTupRg, -e_wLstRg, -e_wsel, ↓k_wbind, ↓k_wk, ↓k_wb2, ↓k_wb1, ↓k_wtest, ↓k_wand, ↓k_wor, ↓k_wnot, ↓k_wandV, ↓k_worV, ↓k_wnotV, ↓k_wif, ↓k_wchain, ↓k_wop, ↓k_witems, ↓k_sseq, ↓k_slift, ↓k_sdrop, ↓k_sret, ↓k_sif, ↓k_stry, ↓k_sapp, ↓k_sext, ↓k_wlst, ↓k_warg, ↓k_wnil, ↓k_wcons, ↓k_wnilC, ↓k_wconsC, ↓k_wtup, ↓k_wlis, ↓k_wlc, ↓k_wcall, ↓k_wsl, ↓k_wTupRg, ↓k_wLstRg, ↓k_wsel, ↓k_wrep, ↓k_wcat, ↓k_wlc2, ↓k_spop, ↓k_spopAt, ↓k_sdone, ↓k_wdget, ↓k_wdgetX, ↓k_sdput, ↓k_wdin, ↓k_wlenD, ↓k_wdc, ↓k_sasgD, ↓k_wsortD, ↓k_sdnew, ↓k_windex, ↓k_sset2, ↓k_slock, ↓k_wlock, ↓k_wkeysL, ↓k_wdinL, ↓k_sasg, ↓k_sasgF, ↓k_sasgT, ↓k_sfor, ↓k_runB, sizeLine_eq])
section
variable {m : Nat} {ws : List Int} {b : Nat} {R : Out → Nat → Prop} {x4 x5 x6 x7 x8 x9 x10 x11 x12 x13 x14 x15 x16 x17 x18 x19 x20 : Option Cell}
theorem lf10 {pt : Bool} {pr : D} (W : Wts m ws) (m5 : m ≤ 5) (hr : reprOk (encI ws)) (hb : 30 ≤ b) (hp : pt = true → ∃ (i a c : Nat), i < 2 ^ m - 1 ∧ a ∈ accL m ws (1 + (i : Int)) ∧ c ∈ accL m ws (1 + (i : Int)) ∧ a &&& c ∉ accL m ws (1 + (i : Int)) ∧ pr = .tuple [.str "told", tri a c (1 + (i : Int))]) (h : ∀ b', b ≤ b' + 30 → R (.rt (.bool true)) b') :
    c__law_fits_10 spec__law_drawn_weights spec__law_parts spec__law_nearly spec__law_stepped spec__law_alike spec__law_told spec__law_same spec__law_accepted spec__law_drawn_set spec__law_weight spec__law_drawn_ranks [some .st, some (.val (.int (m : Int))), some (.val (encI ws)), some (.val (.str (encI ws).shown)), some (.val (.bool pt)), x5, x6, x7, x8, x9, x10, some (.val pr), x12, x13, x14, x15, x16, x17, x18, x19, x20] b R := by
  have hl := W.len
  have p := pow6 (m := m) (by omega)
  cases pt with
  | false =>
    simp_arith [c__law_fits_10]
    exact lf11 W m5 hr hb h
  | true =>
    obtain ⟨i, a, c, hi, ha, hc, hac, rfl⟩ := hp rfl
    have ea : Builtin.bitAnd (a : Int) (1 + (i : Int)) = a := and_eq_sub.2 (mem_accL.1 ha).2.1
    have ec : Builtin.bitAnd (c : Int) (1 + (i : Int)) = c := and_eq_sub.2 (mem_accL.1 hc).2.1
    simp_arith [c__law_fits_10, tri, atI, ixN]
    refine ⟨m, ws, _, rfl, hl, by omega, W.rg, ?_⟩
    have al := accL_len (m := m) (ws := ws) (other := 1 + (i : Int))
    have qa := mem_castI.2 ha
    have qc := mem_castI.2 hc
    have qn : ¬ (((a &&& c : Nat) : Int) ∈ castI (accL m ws (1 + (i : Int)))) := fun z => hac (mem_castI.1 z)
    rw [encN_int]
    have cl : (castI (accL m ws (1 + (i : Int)))).length ≤ 64 := by rw [castI_len]; omega
    generalize castI (accL m ws (1 + (i : Int))) = A at qa qc qn cl ⊢
    simp_arith [ea, ec, qa, qc, qn, andN, atI, ixN]
    exact lf11 W m5 hr hb h
theorem lf7 {stp : Bool} {due : D} (W : Wts m ws) (m5 : m ≤ 5) (hr : reprOk (encI ws)) (hb : 30 ≤ b) (e0 : toldD (bigsE (m : Int) ws) = .tuple [.str "told", .bool stp]) (e3 : toldD (strE (m : Int) ws) = due) (sd : Sm 2 2000 due) (h : ∀ b', b ≤ b' + 30 → R (.rt (.bool true)) b') :
    c__law_fits_7 spec__law_drawn_weights spec__law_parts spec__law_nearly spec__law_stepped spec__law_alike spec__law_told spec__law_same spec__law_accepted spec__law_drawn_set spec__law_weight spec__law_drawn_ranks [some .st, some (.val (.int (m : Int))), some (.val (encI ws)), some (.val (.str (encI ws).shown)), some (.val (.bool (parted m ws))), x5, some (.val (.bool stp)), some (.val due), x8, x9, x10, x11, x12, x13, x14, x15, x16, x17, x18, x19, x20] b R := by
  have hl := W.len
  have p := pow6 (m := m) (by omega)
  have e1 : toldD (closE (m : Int) ws) = .tuple [.str "told", .bool (!parted m ws)] := by
    unfold closE
    rw [W.is]
    show toldD (if 6 < (m : Int) then _ else _) = _
    rw [if_neg (by omega), Int.toNat_natCast, clos_parted W]; rfl
  have e2 : partE (m : Int) ws = firstD (partAll m ws (List.range (2 ^ m - 1))) := by
    unfold partE
    rw [W.is]
    show (if 6 < (m : Int) then _ else _) = _
    rw [if_neg (by omega), Int.toNat_natCast]
  simp_arith [c__law_fits_7]
  have em : [PyData.int 0, PyData.int 1, PyData.int 3] = [0, 1, 3].map PyData.int := rfl
  rw [em]
  refine wComp_ak PyData.int (fun k => toldD (ansE k (m : Int) ws)) (fun k hk Rt hr2 => ?_) ?_
  · have : k = 0 ∨ k = 1 ∨ k = 3 := by simpa using hk
    simp_arith
    exact .inl ⟨k, (m : Int), ws, _, _, rfl, by omega, by omega, hr2⟩
  have a0 : ansE 0 (m : Int) ws = bigsE (m : Int) ws := rfl
  have a1 : ansE 1 (m : Int) ws = closE (m : Int) ws := rfl
  have a2 : ansE 2 (m : Int) ws = partE (m : Int) ws := rfl
  have a3 : ansE 3 (m : Int) ws = strE (m : Int) ws := rfl
  have el : [0, 1, 3].map (fun k => toldD (ansE k (m : Int) ws)) = [.tuple [.str "told", .bool stp], .tuple [.str "told", .bool (!parted m ws)], due] := by
    show [toldD (ansE 0 (m : Int) ws), toldD (ansE 1 (m : Int) ws), toldD (ansE 3 (m : Int) ws)] = _
    rw [a0, a1, a3, e0, e1, e3]
  rw [el]
  simp_arith
  refine .inl ⟨2, (m : Int), ws, _, _, rfl, by omega, by omega, ?_⟩
  rw [a2, e2]
  simp_arith
  refine ⟨_, _, rfl, rfl, ?_, ?_⟩
  · exact rep1 (sm_list (n := 3) (dp := 2) (wt := 2000) (sma_cons (sm_toldB.mono (by decide) (by decide)) (sma_cons (sm_toldB.mono (by decide) (by decide)) (sma_cons sd sma_nil))) (by simp)) (by decide) (by decide)
  simp_arith
  cases q : partAll m ws (List.range (2 ^ m - 1)) with
  | nil =>
    have pf := partAll_nil.1 q
    rw [pf, show toldD (firstD []) = .str "missing" from rfl]
    have er : PyData.eqv (.str "missing") (.str "missing") = true := by decide +kernel
    have okm : okE (.str "missing") (.str "missing") := okE_of (by decide +kernel) (by decide +kernel)
    simp_arith
    refine ⟨okE_of rfl rfl, ?_⟩
    rw [er, eqv_bools]
    simp_arith
    exact lf10 W m5 hr hb (fun z => by cases z) h
  | cons d l =>
    have pf : parted m ws = true := by
      cases z : parted m ws with
      | true => rfl
      | false => rw [partAll_nil.2 z] at q; cases q
    obtain ⟨i, a, c, hi, ha, hc, hac, rfl⟩ := partAll_mem (m := m) (ws := ws) (d := d) (by rw [q]; exact List.mem_cons_self)
    rw [pf, show toldD (firstD (tri a c (1 + (i : Int)) :: l)) = .tuple [.str "told", tri a c (1 + (i : Int))] from rfl]
    have ne : PyData.eqv (.tuple [.str "told", tri a c (1 + (i : Int))]) (.str "missing") = false := rfl
    simp_arith
    have la := (mem_accL.1 ha).1
    have lc := (mem_accL.1 hc).1
    have st : Sm 1 123 (tri a c (1 + (i : Int))) := sm_tuple (n := 3) (dp := 0) (wt := 40) (sma_cons (sm_nat (by omega)) (sma_cons (sm_nat (by omega)) (sma_cons (sm_int (by omega) (by omega)) sma_nil))) (by simp)
    refine ⟨okE_of ((sm_told st (by decide)).shaped (by decide)) (by decide +kernel), okE_of rfl rfl, ?_⟩
    rw [ne, eqv_bools]
    simp_arith
    exact lf10 W m5 hr hb (fun _ => ⟨i, a, c, hi, ha, hc, hac, rfl⟩) h
end
end BB
set_option Elab.async false
set_option linter.all false
set_option maxRecDepth 100000
set_option autoImplicit false
set_option maxHeartbeats 2000000
/-! k59 -/
namespace BB
open PySem PySem.Spec PyProof.Rows L2
local macro_rules | `(tactic| simp_arith [$as,*]) => `(tactic| try simp [$as,*, -e_wbind, -e_wk, -e_wb2, -e_wb1, -e_wtest, -e_wand, -e_wor, -e_wnot, -e_wandV, -e_worV, -e_wnotV, -e_wif, -e_wchain, -e_wop, -e_witems, -e_sseq, -e_slift, -e_sdrop, -e_sret, -e_sif, -e_stry, -e_sapp, -e_sext, -e_runB, -e_sasg, -e_sasgF, -e_sasgT, -e_sfor, -e_wlst, -e_warg, -e_wnil, -e_wcons, -e_wnilC, -e_wconsC, -e_wtup, -e_wlis, -e_wlc, -e_wcall, -e_wsl, -e_wTupRg, -e_wLstRg, -e_wsel, ↓k_wbind, ↓k_wk, ↓k_wb2, ↓k_wb1, ↓k_wtest, ↓k_wand, ↓k_wor, ↓k_wnot, ↓k_wandV, ↓k_worV, ↓k_wnotV, ↓k_wif, ↓k_wchain, ↓k_wop, ↓k_witems, ↓k_sseq, ↓k_slift, ↓k_sdrop, ↓k_sret, ↓k_sif, ↓k_stry, ↓k_sapp, ↓k_sext, ↓k_wlst, ↓k_warg, ↓k_wnil, ↓k_wcons, ↓k_wnilC, ↓k_wconsC, ↓k_wtup, ↓k_wlis, ↓k_wlc, ↓k_wcall, ↓k_wsl, ↓k_wTupRg, ↓k_wLstRg, ↓k_wsel, ↓k_wrep, ↓k_wcat, ↓k_wlc2, ↓k_spop, ↓k_spopAt, ↓k_sdone, ↓k_wdget, ↓k_wdgetX, ↓k_sdput, ↓k_wdin, ↓k_wlenD, ↓k_wdc, ↓k_sasgD, ↓k_wsortD, ↓k_sdnew, ↓k_windex, ↓k_sset2, ↓k_slock, ↓k_wlock, ↓k_wkeysL, ↓k_wdinL, ↓k_sasg, ↓k_sasgF, ↓k_sasgT, ↓k_sfor, ↓k_runB, sizeLine_eq])
local macro_rules | `(tactic| simp_arith) => `(tactic| try simp [-e_wbind, -e_wk, -e_wb2, -e_wb1, -e_wtest, -e_wand, -e_wor, -e_wnot, -e_wandV, -e_worV, -e_wnotV, -e_wif, -e_wchain, -e_wop, -e_witems, -e_sseq, -e_slift, -e_sdrop, -e_sret, -e_sif, -e_stry, -e_sapp, -e_sext, -e_runB, -e_sasg, -e_sasgF, -e_sasgT, -e_sfor, -e_wlst, -e_warg, -e_wnil, -e_wcons, -e_wnilC, -e_wconsC, -e_wtup, -e_wlis, -e_wlc, -e_wcall, -e_wsl, -e_wTupRg, -e_wLstRg, -e_wsel, ↓k_wbind, ↓k_wk, ↓k_wb2, ↓k_wb1, ↓k_wtest, ↓k_wand, ↓k_wor, ↓k_wnot, ↓k_wandV, ↓k_worV, ↓k_wnotV, ↓k_wif, ↓k_wchain, ↓k_wop, ↓k_witems, ↓k_sseq, ↓k_slift, ↓k_sdrop, ↓k_sret, ↓k_sif, ↓k_stry, ↓k_sapp, ↓k_sext, ↓k_wlst, ↓k_warg, ↓k_wnil, ↓k_wcons, ↓k_wnilC, ↓k_wconsC, ↓k_wtup, ↓k_wlis, ↓k_wlc, ↓k_wcall, ↓k_wsl, ↓k_wTupRg, ↓k_wLstRg, ↓k_wsel, ↓k_wrep, ↓k_wcat, ↓k_wlc2, ↓k_spop, ↓k_spopAt, ↓k_sdone, ↓k_wdget, ↓k_wdgetX, ↓k_sdput, ↓k_wdin, ↓k_wlenD, ↓k_wdc, ↓k_sasgD, ↓k_wsortD, ↓k_sdnew, ↓k_windex, ↓k_sset2, ↓k_slock, ↓k_wlock, ↓k_wkeysL, ↓k_wdinL, ↓k_sasg, ↓k_sasgF, ↓k_sasgT, ↓k_sfor, ↓k_runB, sizeLine_eq])
section
variable {m : Nat} {ws : List Int} {b : Nat} {R : Out → Nat → Prop} {x4 x5 x6 x7 x8 x9 x10 x11 x12 x13 x14 x15 x16 x17 x18 x19 x20 : Option Cell}
theorem sm_idx (W : Wts m ws) (m5 : m ≤ 5) : Sm 1 205 (encI (ws.map fun x => ((idxOf (srtD ws) x : Nat) : Int))) := by
  have hl := W.len
  refine (sm_encI (n := 5) (M := 1000) (by decide) (fun x hx => ?_) (by rw [List.length_map]; omega)).mono (by decide) (by decide)
  obtain ⟨y, hy, rfl⟩ := List.mem_map.1 hx
  have := idx_lt (srtD_perm.mem_iff.2 hy)
  have e : (srtD ws).length = ws.length := srtD_perm.length_eq
  omega
theorem lf5 (W : Wts m ws) (m5 : m ≤ 5) (hr : reprOk (encI ws)) (hb : 30 ≤ b) (h : ∀ b', b ≤ b' + 30 → R (.rt (.bool true)) b') :
    c__law_fits_5 spec__law_drawn_weights spec__law_parts spec__law_nearly spec__law_stepped spec__law_alike spec__law_told spec__law_same spec__law_accepted spec__law_drawn_set spec__law_weight spec__law_drawn_ranks [some .st, some (.val (.int (m : Int))), some (.val (encI ws)), some (.val (.str (encI ws).shown)), some (.val (.bool (parted m ws))), x5, some (.val (.bool (lawStep (rowW ws)))), x7, x8, x9, x10, x11, x12, x13, x14, x15, x16, x17, x18, x19, x20] b R := by
  have hl := W.len
  have m1 := W.m1
  have e0 : toldD (bigsE (m : Int) ws) = .tuple [.str "told", .bool (lawStep (rowW ws))] := by
    unfold bigsE
    rw [W.is, law_step]; rfl
  have e3 : strE (m : Int) ws = if lawStep (rowW ws) = true then (if (0 : Int) ∈ ws then .error .ms else .ok (encI (ws.map fun x => ((idxOf (srtD ws) x : Nat) : Int)))) else .error .ms := by
    unfold strE
    rw [W.is, law_step]; rfl
  have sms : Sm 2 2000 (.str "missing") := (sm_str10 (by decide +kernel) (by decide +kernel)).mono (by decide) (by decide)
  cases q : lawStep (rowW ws) with
  | false =>
    rw [q] at e0 e3
    simp_arith [c__law_fits_5]
    exact lf7 W m5 hr hb e0 (by rw [e3]; rfl) sms h
  | true =>
    rw [q, if_pos rfl] at e3
    rw [q] at e0
    simp_arith [c__law_fits_5]
    refine ⟨ws, .inr rfl, by omega, fun mn n1 n2 => ?_⟩
    by_cases c : 0 < mn
    · have pos : ∀ x ∈ ws, 0 < x := fun x hx => by have := n2 x hx; omega
      rw [if_neg (fun z => by have := pos 0 z; omega)] at e3
      simp_arith [c]
      simp_arith [encI]
      refine ⟨by omega, wComp_ak PyData.int (fun x => .int ((idxOf (srtD ws) x : Nat) : Int)) (fun x hx Rt hr2 => ?_) ?_⟩
      · simp_arith
        refine ⟨ws, .inr rfl, fun ns' p o => ?_⟩
        have e2 := srtD_is p o
        subst e2
        have mem : x ∈ srtD ws := srtD_perm.mem_iff.2 hx
        simp_arith
        exact ⟨srtD ws, rfl, idxOf (srtD ws) x, (idx_at mem).1, (idx_at mem).2, hr2⟩
      have em : (ws.map fun x => PyData.int ((idxOf (srtD ws) x : Nat) : Int)) = (ws.map fun x => ((idxOf (srtD ws) x : Nat) : Int)).map PyData.int := by rw [List.map_map]; rfl
      rw [em]
      have big := (big_step hl W.rg pos rowW_of (by rw [← law_step]; exact q) srtD_perm srtD_ord).alike
      have sm := sm_idx W m5
      have rg : ∀ x ∈ (ws.map fun x => ((idxOf (srtD ws) x : Nat) : Int)), x ≤ 1000 := fun x hx => by
        obtain ⟨y, hy, rfl⟩ := List.mem_map.1 hx
        have := idx_lt (srtD_perm.mem_iff.2 hy)
        have e : (srtD ws).length = ws.length := srtD_perm.length_eq
        omega
      have rl : (ws.map fun x => ((idxOf (srtD ws) x : Nat) : Int)).length = m := by rw [List.length_map, hl]
      generalize (ws.map fun x => ((idxOf (srtD ws) x : Nat) : Int)) = rs at e3 big sm rg rl ⊢
      simp_arith [atI, ixN]
      refine ⟨m, ws, rs, rfl, hl, rl, by omega, rg, ?_⟩
      rw [big]
      simp_arith
      exact lf7 W m5 hr hb e0 (by rw [e3]; rfl) ((sm_told sm (by decide)).mono (by decide) (by decide)) h
    · have z : (0 : Int) ∈ ws := by
        have := (W.rg mn n1).1
        have : mn = 0 := by omega
        rw [← this]; exact n1
      rw [if_pos z] at e3
      simp_arith [c]
      exact lf7 W m5 hr hb e0 (by rw [e3]; rfl) sms h
theorem lf3 (W : Wts m ws) (m5 : m ≤ 5) (hr : reprOk (encI ws)) (hb : 30 ≤ b) (h : ∀ b', b ≤ b' + 30 → R (.rt (.bool true)) b') :
    c__law_fits_3 spec__law_drawn_weights spec__law_parts spec__law_nearly spec__law_stepped spec__law_alike spec__law_told spec__law_same spec__law_accepted spec__law_drawn_set spec__law_weight spec__law_drawn_ranks [some .st, some (.val (.int (m : Int))), some (.val (encI ws)), some (.val (.str (encI ws).shown)), some (.val (.bool (parted m ws))), x5, x6, x7, x8, x9, x10, x11, x12, x13, x14, x15, x16, x17, x18, x19, x20] b R := by
  have hl := W.len
  have ne : PyData.eqv (.bool (parted m ws)) (.bool (lawNear (rowW ws))) = false := by
    rw [eqv_bools, parted_near W]
    cases lawNear (rowW ws) <;> rfl
  simp_arith [c__law_fits_3]
  refine ⟨ws, rfl, by omega, ?_⟩
  simp_arith
  refine ⟨okE_of rfl rfl, ?_⟩
  rw [ne]
  simp_arith
  refine ⟨ws, rfl, by omega, ?_⟩
  simp_arith
  exact lf5 W m5 hr hb h
end
def spec__law_fits : Spec := fun cs b R => ∃ (m : Nat), cs = [.st, .val (.int (m : Int))] ∧ 1 ≤ m ∧ m ≤ 5 ∧ 40 ≤ b ∧ ∀ b', b ≤ b' + 40 → R (.ok (.bool true)) b'
theorem run__law_fits (cs : List Cell) (b : Nat) (R : Except Er D → Nat → Prop) (h : spec__law_fits cs b R) : cs.length = 2 ∧ runB 21 (b__law_fits spec__law_drawn_weights spec__law_parts spec__law_nearly spec__law_stepped spec__law_alike spec__law_told spec__law_same spec__law_accepted spec__law_drawn_set spec__law_weight spec__law_drawn_ranks) cs b R := by
  obtain ⟨m, rfl, m1, m5, hb, h⟩ := h
  refine ⟨rfl, ?_⟩
  rw [b__law_fits_cut]
  simp_arith [startE]
  refine ⟨m, rfl, m1, m5, by omega, fun ws b1 W hb1 => ?_⟩
  have hl := W.len
  have hr : reprOk (encI ws) := (sm_encI (n := 5) (M := 1000001) (by decide) (fun x hx => by have := W.rg x hx; omega) (by omega)).repr (by decide) (by decide)
  have kr : ∀ {b : Nat} {R : Except Er D → Nat → Prop}, kRepr (encI ws) b R = (reprOk (encI ws) ∧ R (.ok (.str (encI ws).shown)) b) := fun {b R} => rfl
  have p := pow6 (m := m) (by omega)
  have pz : (2 : Int) ^ m = ((2 ^ m : Nat) : Int) := pow_cast m
  simp_arith [kr]
  refine ⟨hr, ?_⟩
  simp_arith [shl1 (m := (m : Int)) (by omega) (by omega)]
  rw [rangeD_one]
  refine ⟨⟨small_big (by omega) (by omega), small_big (by omega) (by omega)⟩, by simp; omega, ?_⟩
  refine wComp_ak (fun (i : Nat) => PyData.int (1 + (i : Int))) (fun i => .bool (partsB m ws (1 + (i : Int)))) (fun i hi Rt hr2 => ?_) ?_
  · simp_arith
    exact ⟨m, ws, _, rfl, hl, by omega, W.rg, hr2⟩
  · refine ⟨(List.range (2 ^ m - 1)).map fun (i : Nat) => partsB m ws (1 + (i : Int)), by rw [List.map_map]; rfl, ?_⟩
    have ep : (((List.range (2 ^ m - 1)).map fun (i : Nat) => partsB m ws (1 + (i : Int))).any id) = parted m ws := by rw [List.any_map]; rfl
    rw [ep]
    exact lf3 W m5 hr (by omega) fun b' hb' => h b' (by omega)
end BB
set_option Elab.async false
set_option linter.all false
set_option maxRecDepth 100000
set_option autoImplicit false
set_option maxHeartbeats 2000000
/-! k59 -/
namespace BB
open PySem PySem.Spec PyProof.Rows L2
local macro_rules | `(tactic| simp_arith [$as,*]) => `(tactic| try simp [$as,*, -e_wbind, -e_wk, -e_wb2, -e_wb1, -e_wtest, -e_wand, -e_wor, -e_wnot, -e_wandV, -e_worV, -e_wnotV, -e_wif, -e_wchain, -e_wop, -e_witems, -e_sseq, -e_slift, -e_sdrop, -e_sret, -e_sif, -e_stry, -e_sapp, -e_sext, -e_runB, -e_sasg, -e_sasgF, -e_sasgT, -e_sfor, -e_wlst, -e_warg, -e_wnil, -e_wcons, -e_wnilC, -e_wconsC, -e_wtup, -e_wlis, -e_wlc, -e_wcall, -e_wsl, -e_wTupRg, -e_wLstRg, -e_wsel, ↓k_wbind, ↓k_wk, ↓k_wb2, ↓k_wb1, ↓k_wtest, ↓k_wand, ↓k_wor, ↓k_wnot, ↓k_wandV, ↓k_worV, ↓k_wnotV, ↓k_wif, ↓k_wchain, ↓k_wop, ↓k_witems, ↓k_sseq, ↓k_slift, ↓k_sdrop, ↓k_sret, ↓k_sif, ↓k_stry, ↓k_sapp, ↓k_sext, ↓k_wlst, ↓k_warg, ↓k_wnil, ↓k_wcons, ↓k_wnilC, ↓k_wconsC, ↓k_wtup, ↓k_wlis, ↓k_wlc, ↓k_wcall, ↓k_wsl, ↓k_wTupRg, ↓k_wLstRg, ↓k_wsel, ↓k_wrep, ↓k_wcat, ↓k_wlc2, ↓k_spop, ↓k_spopAt, ↓k_sdone, ↓k_wdget, ↓k_wdgetX, ↓k_sdput, ↓k_wdin, ↓k_wlenD, ↓k_wdc, ↓k_sasgD, ↓k_wsortD, ↓k_sdnew, ↓k_windex, ↓k_sset2, ↓k_slock, ↓k_wlock, ↓k_wkeysL, ↓k_wdinL, ↓k_sasg, ↓k_sasgF, ↓k_sasgT, ↓k_sfor, ↓k_runB, sizeLine_eq])
local macro_rules | `(tactic| simp_arith) => `(tactic| try simp [-e_wbind, -e_wk, -e_wb2, -e_wb1, -e_wtest, -e_wand, -e_wor, -e_wnot, -e_wandV, -e_worV, -e_wnotV, -e_wif, -e_wchain, -e_wop, -e_witems, -e_sseq, -e_slift, -e_sdrop, -e_sret, -e_sif, -e_stry, -e_sapp, -e_sext, -e_runB, -e_sasg, -e_sasgF, -e_sasgT, -e_sfor, -e_wlst, -e_warg, -e_wnil, -e_wcons, -e_wnilC, -e_wconsC, -e_wtup, -e_wlis, -e_wlc, -e_wcall, -e_wsl, -e_wTupRg, -e_wLstRg, -e_wsel, ↓k_wbind, ↓k_wk, ↓k_wb2, ↓k_wb1, ↓k_wtest, ↓k_wand, ↓k_wor, ↓k_wnot, ↓k_wandV, ↓k_worV, ↓k_wnotV, ↓k_wif, ↓k_wchain, ↓k_wop, ↓k_witems, ↓k_sseq, ↓k_slift, ↓k_sdrop, ↓k_sret, ↓k_sif, ↓k_stry, ↓k_sapp, ↓k_sext, ↓k_wlst, ↓k_warg, ↓k_wnil, ↓k_wcons, ↓k_wnilC, ↓k_wconsC, ↓k_wtup, ↓k_wlis, ↓k_wlc, ↓k_wcall, ↓k_wsl, ↓k_wTupRg, ↓k_wLstRg, ↓k_wsel, ↓k_wrep, ↓k_wcat, ↓k_wlc2, ↓k_spop, ↓k_spopAt, ↓k_sdone, ↓k_wdget, ↓k_wdgetX, ↓k_sdput, ↓k_wdin, ↓k_wlenD, ↓k_wdc, ↓k_sasgD, ↓k_wsortD, ↓k_sdnew, ↓k_windex, ↓k_sset2, ↓k_slock, ↓k_wlock, ↓k_wkeysL, ↓k_wdinL, ↓k_sasg, ↓k_sasgF, ↓k_sasgT, ↓k_sfor, ↓k_runB, sizeLine_eq])
def c__law_from_ranks_8 (s__law_next s__law_told s__law_same s__law_alike : Spec) : SW := sret (worV (wb2 wLt (wvarT 1) (wc (.int 2))) (wb2 wEq (wcall (wconsC (warg (wc (.int 7))) (wconsC (warg (wvar 1)) (wconsC (warg (wb2 wAdd (wsl (wvarT 7) (wnop) (wop (wb1 (wI1 fun i => -i) (wc (.int 1))))) (wsl (wvarT 7) (wnop) (wop (wc (.int 1)))))) (wconsC (warg (wc (.int 0))) (wconsC (warg (wc (.int 0))) (wnilC)))))) s__law_told) (wc (.str "refused"))))
def c__law_from_ranks_5 (s__law_next s__law_told s__law_same s__law_alike : Spec) : SW := sseq (sasg 10 (wk kTuple (wlst (wlc (witems (wvarT 7)) [8] (tgn 8) (wyes) (wb2 wShl (wc (.int 1)) (windex (wlst (wk kSortedRev (wvarT 7))) (wvar 8))))))) (sseq (sif (wnot (fun δ => wbind ((wcall (wconsC (warg (wvar 9)) (wconsC (warg (wtup (wcons (wc (.str "told")) (wcons (wvar 10) (wnil))))) (wnilC))) s__law_same) δ) wtru)) (sret (wc (.bool false))) (snil)) (sseq (sif (wand (wtest (wb2 wLe (wvarT 1) (wc (.int 5)))) (wnot (fun δ => wbind ((wcall (wconsC (warg (wvar 10)) (wconsC (warg (wvar 7)) (wnilC))) s__law_alike) δ) wtru))) (sret (wc (.bool false))) (snil)) (c__law_from_ranks_8 s__law_next s__law_told s__law_same s__law_alike)))
def c__law_from_ranks_3 (s__law_next s__law_told s__law_same s__law_alike : Spec) : SW := sseq (sasg 7 (wk kTuple (wlst (wlc (witems (wvarT 2)) [8] (tgn 8) (wyes) (wb2 wSub (wvarT 8) (wvarT 4)))))) (sseq (sasg 9 (wcall (wconsC (warg (wc (.int 7))) (wconsC (warg (wvar 1)) (wconsC (warg (wvar 7)) (wconsC (warg (wc (.int 0))) (wconsC (warg (wc (.int 0))) (wnilC)))))) s__law_told)) (c__law_from_ranks_5 s__law_next s__law_told s__law_same s__law_alike))
def c__law_from_ranks_2 (s__law_next s__law_told s__law_same s__law_alike : Spec) : SW := sseq (sfor (wk kRange1 (wcons (wb2 wSub (wvarT 1) (wc (.int 1))) (wnil))) (tgn 5)
    (sseq (sasg 6 (wb2 wAdd (wvarT 5) (wcall (wconsC (wvarC 0) (wconsC (warg (wb2 wSub (wvarT 1) (wvarT 5))) (wnilC))) s__law_next)))
  (sset2 2 (wcons (wb2 wIx (wvarT 2) (wvarT 6)) (wcons (wb2 wIx (wvarT 2) (wvarT 5)) (wnil))) (wvar 5) (wvar 6)))) (c__law_from_ranks_3 s__law_next s__law_told s__law_same s__law_alike)
theorem b__law_from_ranks_cut {s__law_next s__law_told s__law_same s__law_alike : Spec} : b__law_from_ranks s__law_next s__law_told s__law_same s__law_alike = sseq (sasgF 2 (wlc (wk kRange1 (wcons (wvar 1) (wnil))) [3] (tgn 3) (wyes) (wb2 wAdd (wb2 wMulT (wc (.int 3)) (wvarT 3)) (wcall (wconsC (wvarC 0) (wconsC (warg (wc (.int 3))) (wnilC))) s__law_next)))) (sseq (sasg 4 (wk kMin (wvarT 2))) (c__law_from_ranks_2 s__law_next s__law_told s__law_same s__law_alike)) := rfl
theorem drawn_rise : ∀ {n s : Nat} {ys : List D}, Paired (fun d y => ∃ (i : Nat) (x : Int), d = PyData.int (0 + (i : Int)) ∧ y = PyData.int x ∧ 3 * (i : Int) ≤ x ∧ x < 3 * (i : Int) + 3) ((List.range' s n).map fun (i : Nat) => PyData.int (0 + (i : Int))) ys →
    ∃ row : List Int, ys = row.map PyData.int ∧ row.length = n ∧ row.Pairwise (· < ·) ∧ ∀ x ∈ row, 3 * (s : Int) ≤ x ∧ x < 3 * ((s : Int) + n)
  | 0, s, ys, h => by
    cases h
    exact ⟨[], rfl, rfl, List.Pairwise.nil, fun x hx => by cases hx⟩
  | n + 1, s, ys, h => by
    rw [List.range'_succ, List.map_cons] at h
    cases h with
    | cons a t =>
      obtain ⟨i, x, e1, e2, h1, h2⟩ := a
      obtain ⟨row, e3, l, pw, rg⟩ := drawn_rise t
      have ei : (0 + (s : Int)) = 0 + (i : Int) := PyData.int.inj e1
      refine ⟨x :: row, by rw [e2, e3]; rfl, by simp [l], List.pairwise_cons.2 ⟨fun y hy => ?_, pw⟩, fun y hy => ?_⟩
      · have := rg y hy
        omega
      · rcases List.mem_cons.1 hy with rfl | hy
        · omega
        · have := rg y hy
          omega
/-- a row that may be swapped about -/
structure RowG (m : Nat) (row0 row : List Int) : Prop where
  len : row.length = m
  perm : row.Perm row0
theorem at_row {row : List Int} {k : Nat} (h : k < row.length) : atI (row.map PyData.int) (k : Int) = some (.int row[k]) := by
  refine atI_nat ?_
  rw [List.getElem?_map, List.getElem?_eq_getElem h]; rfl
theorem cut_m1 {ds : List D} : cutD ds none (some (-1)) = ds.dropLast := by
  unfold cutD
  simp [HT.sIx]
  rw [List.dropLast_eq_take]
  by_cases h : ds = []
  · subst h; rfl
  · have := List.length_pos_iff.2 h
    congr 1
    omega
section
variable {m : Nat} {rs : List Int} {b : Nat} {R : Out → Nat → Prop} {x2 x3 x4 x5 x6 x8 x10 : Option Cell}
theorem stw_dup (K : Rks m rs) (m18 : m ≤ 18) (m2 : 2 ≤ m) : toldD (stwE (m : Int) (rs.dropLast ++ rs.take 1)) = .str "refused" := by
  have hl := K.len
  have nd : ¬ (rs.dropLast ++ rs.take 1).Nodup := fun z => by
    obtain ⟨x, y, l, rfl⟩ : ∃ x y l, rs = x :: y :: l := by
      match rs, (show 2 ≤ rs.length by omega) with
      | x :: y :: l, _ => exact ⟨x, y, l, rfl⟩
    rw [List.dropLast_cons_of_ne_nil (by simp)] at z
    simp at z
  unfold stwE
  cases e : chkR (m : Int) (rs.dropLast ++ rs.take 1) with
  | error z =>
    by_cases c : (((rs.dropLast ++ rs.take 1).length : Nat) : Int) = (m : Int) ∧ (∀ x ∈ (rs.dropLast ++ rs.take 1), 0 ≤ x ∧ x ≤ 1000) ∧ (0 : Int) ∈ (rs.dropLast ++ rs.take 1)
    · unfold chkR at e
      rw [checkMany_is (by omega)] at e
      have e : (if (((rs.dropLast ++ rs.take 1).length : Nat) : Int) = (m : Int) ∧ (∀ x ∈ (rs.dropLast ++ rs.take 1), 0 ≤ x ∧ x ≤ 1000) ∧ (0 : Int) ∈ (rs.dropLast ++ rs.take 1) then Except.ok PyData.none else Except.error Er.na) = Except.error z := e
      rw [if_pos c] at e; cases e
    · rw [chkR_no (by omega) c] at e
      cases e; rfl
  | ok z =>
    show toldD (if 18 < (m : Int) then _ else _) = _
    rw [if_neg (by omega), if_neg nd]; rfl
theorem lr8 {x9 : Option Cell} (K : Rks m rs) (m18 : m ≤ 18) (h : R (.rt (.bool true)) b) :
    c__law_from_ranks_8 spec__law_next spec__law_told spec__law_same spec__law_alike [some .st, some (.val (.int (m : Int))), x2, x3, x4, x5, x6, some (.val (encI rs)), x8, x9, x10] b R := by
  have hl := K.len
  by_cases c : m < 2
  · simp_arith [c__law_from_ranks_8, show (m : Int) < 2 by omega]
    exact h
  · simp_arith [c__law_from_ranks_8, show ¬ (m : Int) < 2 by omega, encI, cut_m1]
    have c1 : cutD (rs.map PyData.int) none (some 1) = (rs.map PyData.int).take 1 := cut_to (k := 1)
    rw [c1]
    refine ⟨by rw [List.length_take]; omega, .inr (.inr (.inr (.inr ⟨(m : Int), rs.dropLast ++ rs.take 1, .int 0, .int 0, ?_, ?_⟩)))⟩
    · unfold encI
      rw [List.map_append, List.map_dropLast, List.map_take]
    rw [stw_dup K m18 (by omega)]
    simp_arith
    rw [eqv_rfl (by decide +kernel)]
    exact h
theorem lr5 (K : Rks m rs) (nd : rs.Nodup) (m18 : m ≤ 18) (h : R (.rt (.bool true)) b) :
    c__law_from_ranks_5 spec__law_next spec__law_told spec__law_same spec__law_alike [some .st, some (.val (.int (m : Int))), x2, x3, x4, x5, x6, some (.val (encI rs)), x8, some (.val (.tuple [.str "told", encI (stW (srtD rs) rs)])), x10] b R := by
  have hl := K.len
  have m1 := K.m1
  simp_arith [c__law_from_ranks_5]
  simp_arith [encI]
  refine ⟨by omega, wComp_ak PyData.int (fun x => .int (2 ^ idxOf (srtD rs) x)) (fun x hx Rt hr2 => ?_) ?_⟩
  · simp_arith
    refine ⟨rs, .inr rfl, fun ns' p o => ?_⟩
    have e2 := srtD_is p o
    subst e2
    have mem : x ∈ srtD rs := srtD_perm.mem_iff.2 hx
    have il := idx_lt mem
    have ol : (srtD rs).length = rs.length := srtD_perm.length_eq
    simp_arith
    exact ⟨srtD rs, rfl, idxOf (srtD rs) x, (idx_at mem).1, (idx_at mem).2, shl1 (m := ((idxOf (srtD rs) x : Nat) : Int)) (by omega) (by omega), hr2⟩
  have em : (rs.map fun x => PyData.int (2 ^ idxOf (srtD rs) x)) = (stW (srtD rs) rs).map PyData.int := by unfold stW; rw [List.map_map]; rfl
  rw [em]
  have big := big_rank hl m18 nd (srtD_perm (l := rs)) srtD_ord
  have al := big.alike
  have sl := big.len
  have srg := big.rg
  have sm : Sm 1 (18 * 41) (encI (stW (srtD rs) rs)) := sm_encI (n := 18) (M := 1000001) (by decide) (fun x hx => by have := srg x hx; omega) (by omega)
  generalize stW (srtD rs) rs = ws at al sl srg sm ⊢
  simp_arith
  refine ⟨_, _, rfl, rfl, rep1 (sm_told sm (by decide)) (by decide) (by decide), ?_⟩
  simp_arith
  by_cases c5 : m ≤ 5
  · simp_arith [show (m : Int) ≤ 5 by omega]
    refine ⟨m, ws, rs, rfl, sl, hl, by omega, fun x hx => (K.rg x hx).2, ?_⟩
    rw [al]
    simp_arith
    exact lr8 K m18 h
  · simp_arith [show ¬ (m : Int) ≤ 5 by omega]
    exact lr8 K m18 h
theorem lr3 {row row0 : List Int} {low : Int} (m1 : 1 ≤ m) (m18 : m ≤ 18) (G : RowG m row0 row) (nd : row0.Nodup) (lo : low ∈ row0) (le : ∀ x ∈ row0, low ≤ x) (up : ∀ x ∈ row0, x ≤ low + 1000) (h : R (.rt (.bool true)) b) {x7 x9 : Option Cell} :
    c__law_from_ranks_3 spec__law_next spec__law_told spec__law_same spec__law_alike [some .st, some (.val (.int (m : Int))), some (.own (row.map PyData.int)), x3, some (.val (.int low)), x5, x6, x7, x8, x9, x10] b R := by
  have hl := G.len
  simp_arith [c__law_from_ranks_3]
  refine ⟨by omega, wComp_ak PyData.int (fun x => .int (x - low)) (fun x hx Rt hr2 => ?_) ?_⟩
  · simp_arith; exact hr2
  have em : (row.map fun x => PyData.int (x - low)) = (row.map fun x => x - low).map PyData.int := by rw [List.map_map]; rfl
  rw [em]
  have K : Rks m (row.map fun x => x - low) := ⟨m1, by omega, by rw [List.length_map, hl], fun x hx => by
    obtain ⟨y, hy, rfl⟩ := List.mem_map.1 hx
    have := le y (G.perm.mem_iff.1 hy)
    have := up y (G.perm.mem_iff.1 hy)
    omega, List.mem_map.2 ⟨low, G.perm.mem_iff.2 lo, by omega⟩⟩
  have nd2 : (row.map fun x => x - low).Nodup := List.Pairwise.map _ (fun a b (z : a ≠ b) e => z (by omega)) (G.perm.nodup_iff.2 nd)
  generalize (row.map fun x => x - low) = rs at K nd2 ⊢
  simp_arith
  refine .inr (.inr (.inr (.inr ⟨(m : Int), rs, _, _, rfl, ?_⟩)))
  have es : stwE (m : Int) rs = .ok (encI (stW (srtD rs) rs)) := by
    unfold stwE
    rw [K.is]
    show (if 18 < (m : Int) then _ else _) = _
    rw [if_neg (by omega), if_pos nd2]
  rw [es]
  simp_arith [toldD]
  exact lr5 K nd2 m18 h
end
def spec__law_from_ranks : Spec := fun cs b R => ∃ (m : Nat), cs = [.st, .val (.int (m : Int))] ∧ 1 ≤ m ∧ m ≤ 18 ∧ 40 ≤ b ∧ ∀ b', b ≤ b' + 40 → R (.ok (.bool true)) b'
theorem run__law_from_ranks (cs : List Cell) (b : Nat) (R : Except Er D → Nat → Prop) (h : spec__law_from_ranks cs b R) : cs.length = 2 ∧ runB 11 (b__law_from_ranks spec__law_next spec__law_told spec__law_same spec__law_alike) cs b R := by
  obtain ⟨m, rfl, m1, m18, hb, h⟩ := h
  refine ⟨rfl, ?_⟩
  rw [b__law_from_ranks_cut]
  simp_arith [startE]
  rw [rangeD_nat]
  refine ⟨small_big (by omega) (by omega), by simp; omega, ?_⟩
  have ll : ((List.range m).map fun (i : Nat) => PyData.int (0 + (i : Int))).length = m := by simp
  refine wComp_dk 1 (fun d y => ∃ (i : Nat) (x : Int), d = PyData.int (0 + (i : Int)) ∧ y = PyData.int x ∧ 3 * (i : Int) ≤ x ∧ x < 3 * (i : Int) + 3) (fun d hd b1 Rt hb1 hy => ?_) (by rw [ll]; omega) fun ys b1 hp hb1 => ?_
  · obtain ⟨i, hi, rfl⟩ := List.mem_map.1 hd
    have il := List.mem_range.1 hi
    have cm : CMulX 3 (i : Int) := mulx_ok (a := 3) (b := 10) (by decide) (by omega) (by decide)
    simp_arith [cm]
    refine next_at (by decide) (by omega) fun u u0 u1 => ?_
    simp_arith
    exact hy _ _ ⟨i, _, by simp, rfl, by omega, by omega⟩ (by omega)
  rw [List.range_eq_range'] at hp
  obtain ⟨row, rfl, hl, pw, rg⟩ := drawn_rise hp
  rw [ll] at hb1
  simp_arith
  refine ⟨row, rfl, by omega, fun low n1 n2 => ?_⟩
  simp_arith [c__law_from_ranks_2]
  have em : ((m : Int) - 1) = ((m - 1 : Nat) : Int) := by omega
  rw [em, rangeD_nat]
  refine ⟨small_big (by omega) (by omega), ?_⟩
  have nd : row.Nodup := pw.imp fun z e => by omega
  refine wFor_xk (fun (i : Nat) => PyData.int (0 + (i : Int))) (fun (ks : List Nat) δ b' => b1 ≤ b' + (m - 1 - ks.length) ∧ ks.length ≤ m - 1 ∧ (∀ k ∈ ks, k < m - 1) ∧ ∃ (row2 : List Int) (x3 x5 x6 x7 x8 x9 x10 : Option Cell), RowG m row row2 ∧ δ = [some .st, some (.val (.int (m : Int))), some (.own (row2.map PyData.int)), x3, some (.val (.int low)), x5, x6, x7, x8, x9, x10]) ?_ ?_ ⟨by simp, by simp, fun k hk => List.mem_range.1 hk, row, none, none, none, none, none, none, none, ⟨hl, List.Perm.refl _⟩, rfl⟩
  · rintro δ b' ⟨hb2, _, _, row2, x3, x5, x6, x7, x8, x9, x10, G, rfl⟩
    exact lr3 m1 m18 G nd n1 n2 (fun x hx => by have := rg x hx; have := rg low n1; omega) (h _ (by simp at hb2; omega))
  · rintro k ks δ b' K ⟨hb2, kl, km, row2, x3, x5, x6, x7, x8, x9, x10, G, rfl⟩ hK
    rw [List.length_cons] at hb2 kl
    have klt := km k List.mem_cons_self
    have gl := G.len
    simp_arith
    refine next_at (by omega) (by omega) fun u u0 u1 => ?_
    obtain ⟨n, hn⟩ : ∃ n : Nat, (k : Int) + u = (n : Int) := ⟨((k : Int) + u).toNat, by omega⟩
    have nl : n < m := by omega
    have ak := at_row (row := row2) (k := k) (by omega)
    have an := at_row (row := row2) (k := n) (by omega)
    have ik : ixN row2.length (k : Int) = some k := by
      have := ixN_in (n := row2.length) (j := (k : Int)) (by omega) (by omega)
      simpa using this
    have inn : ∀ l : List D, l.length = row2.length → ixN l.length (n : Int) = some n := fun l hl2 => by
      have := ixN_in (n := l.length) (j := (n : Int)) (by omega) (by omega)
      simpa using this
    simp_arith [hn, ak, an]
    have inn2 := inn (row2.map PyData.int) (by simp)
    rw [List.length_map] at inn2
    refine ⟨k, ik, n, inn2, ?_⟩
    have es : (((row2.map PyData.int).set k (PyData.int row2[n])).set n (PyData.int row2[k])) = ((row2.set k row2[n]).set n row2[k]).map PyData.int := by
      rw [List.map_set, List.map_set]
    rw [es]
    refine hK _ _ ⟨by omega, by omega, fun j hj => km j (List.mem_cons_of_mem _ hj), _, x3, _, _, x7, x8, x9, x10, ⟨by simp [gl], (List.set_set_perm (by omega) (by omega)).trans G.perm⟩, rfl⟩
end BB
set_option Elab.async false
set_option linter.all false
set_option maxRecDepth 100000
set_option autoImplicit false
set_option maxHeartbeats 2000000
/-! k59 -/
namespace BB
open PySem PySem.Spec PyProof.Rows L2
local macro_rules | `(tactic| simp_arith [$as,*]) => `(tactic| try simp [$as,*, -e_wbind, -e_wk, -e_wb2, -e_wb1, -e_wtest, -e_wand, -e_wor, -e_wnot, -e_wandV, -e_worV, -e_wnotV, -e_wif, -e_wchain, -e_wop, -e_witems, -e_sseq, -e_slift, -e_sdrop, -e_sret, -e_sif, -e_stry, -e_sapp, -e_sext, -e_runB, -e_sasg, -e_sasgF, -e_sasgT, -e_sfor, -e_wlst, -e_warg, -e_wnil, -e_wcons, -e_wnilC, -e_wconsC, -e_wtup, -e_wlis, -e_wlc, -e_wcall, -e_wsl, -e_wTupRg, -e_wLstRg, -e_wsel, ↓k_wbind, ↓k_wk, ↓k_wb2, ↓k_wb1, ↓k_wtest, ↓k_wand, ↓k_wor, ↓k_wnot, ↓k_wandV, ↓k_worV, ↓k_wnotV, ↓k_wif, ↓k_wchain, ↓k_wop, ↓k_witems, ↓k_sseq, ↓k_slift, ↓k_sdrop, ↓k_sret, ↓k_sif, ↓k_stry, ↓k_sapp, ↓k_sext, ↓k_wlst, ↓k_warg, ↓k_wnil, ↓k_wcons, ↓k_wnilC, ↓k_wconsC, ↓k_wtup, ↓k_wlis, ↓k_wlc, ↓k_wcall, ↓k_wsl, ↓k_wTupRg, ↓k_wLstRg, ↓k_wsel, ↓k_wrep, ↓k_wcat, ↓k_wlc2, ↓k_spop, ↓k_spopAt, ↓k_sdone, ↓k_wdget, ↓k_wdgetX, ↓k_sdput, ↓k_wdin, ↓k_wlenD, ↓k_wdc, ↓k_sasgD, ↓k_wsortD, ↓k_sdnew, ↓k_windex, ↓k_sset2, ↓k_slock, ↓k_wlock, ↓k_wkeysL, ↓k_wdinL, ↓k_sasg, ↓k_sasgF, ↓k_sasgT, ↓k_sfor, ↓k_runB, sizeLine_eq])
local macro_rules | `(tactic| simp_arith) => `(tactic| try simp [-e_wbind, -e_wk, -e_wb2, -e_wb1, -e_wtest, -e_wand, -e_wor, -e_wnot, -e_wandV, -e_worV, -e_wnotV, -e_wif, -e_wchain, -e_wop, -e_witems, -e_sseq, -e_slift, -e_sdrop, -e_sret, -e_sif, -e_stry, -e_sapp, -e_sext, -e_runB, -e_sasg, -e_sasgF, -e_sasgT, -e_sfor, -e_wlst, -e_warg, -e_wnil, -e_wcons, -e_wnilC, -e_wconsC, -e_wtup, -e_wlis, -e_wlc, -e_wcall, -e_wsl, -e_wTupRg, -e_wLstRg, -e_wsel, ↓k_wbind, ↓k_wk, ↓k_wb2, ↓k_wb1, ↓k_wtest, ↓k_wand, ↓k_wor, ↓k_wnot, ↓k_wandV, ↓k_worV, ↓k_wnotV, ↓k_wif, ↓k_wchain, ↓k_wop, ↓k_witems, ↓k_sseq, ↓k_slift, ↓k_sdrop, ↓k_sret, ↓k_sif, ↓k_stry, ↓k_sapp, ↓k_sext, ↓k_wlst, ↓k_warg, ↓k_wnil, ↓k_wcons, ↓k_wnilC, ↓k_wconsC, ↓k_wtup, ↓k_wlis, ↓k_wlc, ↓k_wcall, ↓k_wsl, ↓k_wTupRg, ↓k_wLstRg, ↓k_wsel, ↓k_wrep, ↓k_wcat, ↓k_wlc2, ↓k_spop, ↓k_spopAt, ↓k_sdone, ↓k_wdget, ↓k_wdgetX, ↓k_sdput, ↓k_wdin, ↓k_wlenD, ↓k_wdc, ↓k_sasgD, ↓k_wsortD, ↓k_sdnew, ↓k_windex, ↓k_sset2, ↓k_slock, ↓k_wlock, ↓k_wkeysL, ↓k_wdinL, ↓k_sasg, ↓k_sasgF, ↓k_sasgT, ↓k_sfor, ↓k_runB, sizeLine_eq])
def c_law_2 (s__law_fits s__law_next s__law_from_ranks s__law_told : Spec) : SW := sseq (sasg 3 (wtup (wcons (wc (.int 1)) (wcons (wc (.int 2)) (wcons (wc (.int 4)) (wcons (wc (.int 8)) (wcons (wc (.int 16)) (wcons (wc (.int 32)) (wcons (wc (.int 64)) (wnil)))))))))) (sseq (sasg 4 (wTupRg (wk kRg1 (wc (.int 19))))) (sseq (sasgF 5 (wlis (wcons (wcall (wconsC (warg (wc (.int 1))) (wconsC (warg (wc (.int 7))) (wconsC (warg (wvar 3)) (wconsC (warg (wc (.int 0))) (wconsC (warg (wc (.int 0))) (wnilC)))))) s__law_told) (wcons (wcall (wconsC (warg (wc (.int 2))) (wconsC (warg (wc (.int 7))) (wconsC (warg (wvar 3)) (wconsC (warg (wc (.int 0))) (wconsC (warg (wc (.int 0))) (wnilC)))))) s__law_told) (wcons (wcall (wconsC (warg (wc (.int 6))) (wconsC (warg (wc (.int 7))) (wconsC (warg (wvar 3)) (wconsC (warg (wsl (wvarT 4) (wnop) (wop (wc (.int 7))))) (wconsC (warg (wc (.int 0))) (wnilC)))))) s__law_told) (wcons (wcall (wconsC (warg (wc (.int 7))) (wconsC (warg (wc (.int 19))) (wconsC (warg (wvar 4)) (wconsC (warg (wc (.int 0))) (wconsC (warg (wc (.int 0))) (wnilC)))))) s__law_told) (wcons (wcall (wconsC (warg (wc (.int 7))) (wconsC (warg (wc (.int 2))) (wconsC (warg (wtup (wcons (wc (.int 1)) (wcons (wc (.int 1)) (wnil))))) (wconsC (warg (wc (.int 0))) (wconsC (warg (wc (.int 0))) (wnilC)))))) s__law_told) (wcons (wcall (wconsC (warg (wc (.int 0))) (wconsC (warg (wc (.int 2))) (wconsC (warg (wtup (wcons (wc (.int 0)) (wcons (wc (.int 0)) (wnil))))) (wconsC (warg (wc (.int 0))) (wconsC (warg (wc (.int 0))) (wnilC)))))) s__law_told) (wcons (wcall (wconsC (warg (wc (.int 4))) (wconsC (warg (wc (.int 2))) (wconsC (warg (wtup (wcons (wc (.int 1)) (wcons (wc (.int 1)) (wnil))))) (wconsC (warg (wc (.int 4))) (wconsC (warg (wc (.int 1))) (wnilC)))))) s__law_told) (wcons (wcall (wconsC (warg (wc (.int 6))) (wconsC (warg (wc (.int 2))) (wconsC (warg (wtup (wcons (wc (.int 1)) (wcons (wc (.int 1)) (wnil))))) (wconsC (warg (wtup (wcons (wc (.int 1)) (wcons (wc (.int 1)) (wnil))))) (wconsC (warg (wc (.int 0))) (wnilC)))))) s__law_told) (wcons (wcall (wconsC (warg (wc (.int 5))) (wconsC (warg (wc (.int 2))) (wconsC (warg (wtup (wcons (wc (.int 1)) (wcons (wc (.int 1)) (wnil))))) (wconsC (warg (wc (.int 0))) (wconsC (warg (wc (.int 0))) (wnilC)))))) s__law_told) (wnil)))))))))))) (sret (wandV (wb2 wEq (wvarT 5) (wb2 wAdd (wb2 wAdd (wlst (wrep (wlis (wcons (wc (.str "large")) (wnil))) (wc (.int 4)))) (wlst (wrep (wlis (wcons (wc (.str "refused")) (wnil))) (wc (.int 4))))) (wlst (wlis (wcons (wc (.str "missing")) (wnil)))))) (wb2 wEq (wc (.int 18)) (wc (.int 18)))))))
theorem b_law_cut {s__law_fits s__law_next s__law_from_ranks s__law_told : Spec} : b_law s__law_fits s__law_next s__law_from_ranks s__law_told = sseq (sfor (wk kRange1 (wcons (wc (.int 4)) (wnil))) (tgn 2)
    (sif (wor (wnot (fun δ => wbind ((wcall (wconsC (wvarC 1) (wconsC (warg (wb2 wAdd (wc (.int 1)) (wcall (wconsC (wvarC 1) (wconsC (warg (wc (.int 4))) (wnilC))) s__law_next))) (wnilC))) s__law_fits) δ) wtru)) (wnot (fun δ => wbind ((wcall (wconsC (wvarC 1) (wconsC (warg (wb2 wIx (wlst (wlis (wcons (wc (.int 18)) (wcons (wb2 wAdd (wc (.int 1)) (wcall (wconsC (wvarC 1) (wconsC (warg (wc (.int 5))) (wnilC))) s__law_next)) (wnil))))) (wcall (wconsC (wvarC 1) (wconsC (warg (wc (.int 2))) (wnilC))) s__law_next))) (wnilC))) s__law_from_ranks) δ) wtru))) (sret (wc (.bool false))) (snil))) (sseq (sif (wand (wtest (wb2 wEq (wcall (wconsC (wvarC 1) (wconsC (warg (wc (.int 6))) (wnilC))) s__law_next) (wc (.int 0)))) (wnot (fun δ => wbind ((wcall (wconsC (wvarC 1) (wconsC (warg (wc (.int 5))) (wnilC))) s__law_fits) δ) wtru))) (sret (wc (.bool false))) (snil)) (c_law_2 s__law_fits s__law_next s__law_from_ranks s__law_told)) := rfl

theorem wts7 : Wts 7 [1, 2, 4, 8, 16, 32, 64] := ⟨by decide, by decide, rfl, by decide, by decide⟩
theorem rks19 : Rks 19 ((List.range 19).map fun (i : Nat) => (i : Int)) := ⟨by decide, by decide, by decide, by decide, by decide⟩
theorem rks7 : Rks 7 ((List.range 7).map fun (i : Nat) => (i : Int)) := ⟨by decide, by decide, by decide, by decide, by decide⟩
theorem wts2 : Wts 2 [1, 1] := ⟨by decide, by decide, rfl, by decide, by decide⟩
theorem a1 : toldD (ansE 1 7 [1, 2, 4, 8, 16, 32, 64]) = .str "large" := by
  have e : ansE 1 7 [1, 2, 4, 8, 16, 32, 64] = closE 7 [1, 2, 4, 8, 16, 32, 64] := rfl
  rw [e]; unfold closE
  rw [show chkW 7 [1, 2, 4, 8, 16, 32, 64] = .ok .none from wts7.is]; rfl
theorem a2 : toldD (ansE 2 7 [1, 2, 4, 8, 16, 32, 64]) = .str "large" := by
  have e : ansE 2 7 [1, 2, 4, 8, 16, 32, 64] = partE 7 [1, 2, 4, 8, 16, 32, 64] := rfl
  rw [e]; unfold partE
  rw [show chkW 7 [1, 2, 4, 8, 16, 32, 64] = .ok .none from wts7.is]; rfl
theorem a3 : toldD (sameE 7 [1, 2, 4, 8, 16, 32, 64] ((List.range 7).map fun (i : Nat) => (i : Int))) = .str "large" := by
  unfold sameE
  rw [show chkW 7 [1, 2, 4, 8, 16, 32, 64] = .ok .none from wts7.is]
  rw [show chkR 7 ((List.range 7).map fun (i : Nat) => (i : Int)) = .ok .none from rks7.is]; rfl
theorem a4 : toldD (stwE 19 ((List.range 19).map fun (i : Nat) => (i : Int))) = .str "large" := by
  unfold stwE
  rw [show chkR 19 ((List.range 19).map fun (i : Nat) => (i : Int)) = .ok .none from rks19.is]; rfl
theorem a5 : toldD (stwE 2 [1, 1]) = .str "refused" := by
  unfold stwE
  rw [chkR_no (by decide) (by decide)]; rfl
theorem a6 : toldD (ansE 0 2 [0, 0]) = .str "refused" := by
  have e : ansE 0 2 [0, 0] = bigsE 2 [0, 0] := rfl
  rw [e]; unfold bigsE
  rw [chkW_no (by decide) (by decide)]; rfl
theorem a7 : toldD (accE 2 [1, 1] 4 1) = .str "refused" := by
  unfold accE
  rw [show chkW 2 [1, 1] = .ok .none from wts2.is]; rfl
theorem a8 : toldD (sameE 2 [1, 1] [1, 1]) = .str "refused" := by
  unfold sameE
  rw [show chkW 2 [1, 1] = .ok .none from wts2.is]
  rw [chkR_no (by decide) (by decide)]; rfl
theorem a9 : toldD (heavE 2 [1, 1] 0) = .str "missing" := by
  unfold heavE
  rw [show chkW 2 [1, 1] = .ok .none from wts2.is]
  show toldD ((checkSet 2 0).bind _) = _
  rw [checkSet_is (by decide) (by decide)]
  show toldD (firstN (heavyL 2 [1, 1] 0)) = _
  rw [show heavyL 2 [1, 1] 0 = [] from by decide +kernel]; rfl
theorem run_law (ns : List Int) (h : ns.length ≤ 63) : b_law spec__law_fits spec__law_next spec__law_from_ranks spec__law_told (lawEnv 4 ns) lawDraws fun o _ => o = .rt (.bool true) := by
  have b4 := small_big (i := 4) (by decide) (by decide)
  have rg4 : rangeD 0 4 = (List.range 4).map fun (i : Nat) => PyData.int (0 + (i : Int)) := rfl
  rw [b_law_cut]
  simp_arith [lawEnv, b4]
  rw [rg4]
  refine wFor_xk (fun (i : Nat) => PyData.int (0 + (i : Int))) (fun l δ b' => 100 * l.length + 200 ≤ b' ∧ ∃ x2, δ = [some (.ro ns), some .st, x2, none, none, none]) (fun δ b' hI => ?_) (fun x l δ b' K hI hK => ?_) ⟨by decide, _, rfl⟩
  · obtain ⟨lb, x2, rfl⟩ := hI
    have last : ∀ b'', c_law_2 spec__law_fits spec__law_next spec__law_from_ranks spec__law_told [some (.ro ns), some .st, x2, none, none, none] b'' fun o _ => o = .rt (.bool true) := fun b'' => by
      unfold c_law_2
      have e7 : PyData.tuple [.int 1, .int 2, .int 4, .int 8, .int 16, .int 32, .int 64] = encI [1, 2, 4, 8, 16, 32, 64] := rfl
      simp_arith
      refine ⟨RgOk.of_le (by decide) (by decide) (by decide) (by decide), .inl ⟨1, 7, [1, 2, 4, 8, 16, 32, 64], _, _, rfl, by decide, by decide, ?_⟩⟩
      rw [a1]
      simp_arith
      refine .inl ⟨2, 7, [1, 2, 4, 8, 16, 32, 64], _, _, rfl, by decide, by decide, ?_⟩
      rw [a2]
      simp_arith
      have r7 : PyData.tuple (cutD (rangeD 0 19) none (some 7)) = encI ((List.range 7).map fun (i : Nat) => (i : Int)) := by rfl
      have r19 : PyData.tuple (rangeD 0 19) = encI ((List.range 19).map fun (i : Nat) => (i : Int)) := by rfl
      rw [r7]
      refine .inr (.inr (.inr (.inl ⟨7, [1, 2, 4, 8, 16, 32, 64], (List.range 7).map fun (i : Nat) => (i : Int), .int 0, rfl, ?_⟩)))
      rw [a3, r19]
      simp_arith
      refine .inr (.inr (.inr (.inr ⟨19, (List.range 19).map fun (i : Nat) => (i : Int), .int 0, .int 0, rfl, ?_⟩)))
      rw [a4]
      simp_arith
      refine .inr (.inr (.inr (.inr ⟨2, [1, 1], .int 0, .int 0, rfl, ?_⟩)))
      rw [a5]
      simp_arith
      refine .inl ⟨0, 2, [0, 0], .int 0, .int 0, rfl, by decide, by decide, ?_⟩
      rw [a6]
      simp_arith
      refine .inr (.inl ⟨2, [1, 1], 4, 1, rfl, ?_⟩)
      rw [a7]
      simp_arith
      refine .inr (.inr (.inr (.inl ⟨2, [1, 1], [1, 1], .int 0, rfl, ?_⟩)))
      rw [a8]
      simp_arith
      refine .inr (.inr (.inl ⟨2, [1, 1], 0, .int 0, rfl, ?_⟩))
      rw [a9]
      simp_arith [List.replicate]
      refine ⟨okE_of (by decide +kernel) (by decide +kernel), ?_⟩
      rw [eqv_rfl (by decide +kernel)]
      simp_arith
    simp_arith
    refine next_at (by decide) (by omega) fun v a1 a2 => ?_
    by_cases c : v = 0
    · subst c
      simp_arith
      refine ⟨5, rfl, by decide, by decide, by omega, fun b2 hb2 => ?_⟩
      simp_arith
      exact last _
    · have cb : (v == 0) = false := by simpa using c
      simp_arith [cb, c]
      exact last _
  · obtain ⟨lb, x2, rfl⟩ := hI
    rw [List.length_cons] at lb
    simp_arith
    refine next_at (by decide) (by omega) fun v v0 v1 => ?_
    obtain ⟨n, hn⟩ : ∃ n : Nat, 1 + v = (n : Int) := ⟨(1 + v).toNat, by omega⟩
    simp_arith [hn]
    refine ⟨n, rfl, by omega, by omega, by omega, fun b2 hb2 => ?_⟩
    simp_arith
    refine next_at (by decide) (by omega) fun u u0 u1 => ?_
    simp_arith
    refine next_at (by decide) (by omega) fun t t0 t1 => ?_
    have sel : ∃ m : Nat, atI [PyData.int 18, .int (1 + u)] t = some (.int (m : Int)) ∧ 1 ≤ m ∧ m ≤ 18 := by
      have : t = 0 ∨ t = 1 := by omega
      rcases this with rfl | rfl
      · exact ⟨18, rfl, by decide, by decide⟩
      · exact ⟨(1 + u).toNat, by rw [show (((1 + u).toNat : Nat) : Int) = 1 + u by omega]; rfl, by omega, by omega⟩
    obtain ⟨m, hm, m1, m18⟩ := sel
    simp_arith
    refine ⟨_, hm, ?_⟩
    simp_arith
    refine ⟨m, rfl, m1, m18, by omega, fun b3 hb3 => ?_⟩
    simp_arith
    exact hK _ _ ⟨by omega, _, rfl⟩
end BB
set_option Elab.async false
set_option linter.all false
set_option maxRecDepth 100000
set_option autoImplicit false
set_option maxHeartbeats 2000000
/-! k59: the end. -/
namespace BB
open PySem PySem.Spec PyProof.Rows L2
theorem all_mk {P : Program} {w : World} {K : PySem.W.Frag} {h : Heap} {mg : Str → Option Value} {fa : Addr} (X : K.In h) (G : h.Ns mainGlobals mg) (hfa : mg "law" = some (.ref fa))
    {f0 : Addr} {od0 an0 : Option Addr} {sl0 : Array (Option Value)} {oc0 kV0 dc0 pm0 cd0 ct0 : Value} {f1 : Addr} {od1 an1 : Option Addr} {sl1 : Array (Option Value)} {oc1 kV1 dc1 pm1 cd1 ct1 : Value} {f2 : Addr} {od2 an2 : Option Addr} {sl2 : Array (Option Value)} {oc2 kV2 dc2 pm2 cd2 ct2 : Value} {f3 : Addr} {od3 an3 : Option Addr} {sl3 : Array (Option Value)} {oc3 kV3 dc3 pm3 cd3 ct3 : Value} {f4 : Addr} {od4 an4 : Option Addr} {sl4 : Array (Option Value)} {oc4 kV4 dc4 pm4 cd4 ct4 : Value} {f5 : Addr} {od5 an5 : Option Addr} {sl5 : Array (Option Value)} {oc5 kV5 dc5 pm5 cd5 ct5 : Value} {f6 : Addr} {od6 an6 : Option Addr} {sl6 : Array (Option Value)} {oc6 kV6 dc6 pm6 cd6 ct6 : Value} {f7 : Addr} {od7 an7 : Option Addr} {sl7 : Array (Option Value)} {oc7 kV7 dc7 pm7 cd7 ct7 : Value} {f8 : Addr} {od8 an8 : Option Addr} {sl8 : Array (Option Value)} {oc8 kV8 dc8 pm8 cd8 ct8 : Value} {f9 : Addr} {od9 an9 : Option Addr} {sl9 : Array (Option Value)} {oc9 kV9 dc9 pm9 cd9 ct9 : Value} {f10 : Addr} {od10 an10 : Option Addr} {sl10 : Array (Option Value)} {oc10 kV10 dc10 pm10 cd10 ct10 : Value} {f11 : Addr} {od11 an11 : Option Addr} {sl11 : Array (Option Value)} {oc11 kV11 dc11 pm11 cd11 ct11 : Value} {f12 : Addr} {od12 an12 : Option Addr} {sl12 : Array (Option Value)} {oc12 kV12 dc12 pm12 cd12 ct12 : Value} {f13 : Addr} {od13 an13 : Option Addr} {sl13 : Array (Option Value)} {oc13 kV13 dc13 pm13 cd13 ct13 : Value} {f14 : Addr} {od14 an14 : Option Addr} {sl14 : Array (Option Value)} {oc14 kV14 dc14 pm14 cd14 ct14 : Value} {f15 : Addr} {od15 an15 : Option Addr} {sl15 : Array (Option Value)} {oc15 kV15 dc15 pm15 cd15 ct15 : Value} {f16 : Addr} {od16 an16 : Option Addr} {sl16 : Array (Option Value)} {oc16 kV16 dc16 pm16 cd16 ct16 : Value} {f17 : Addr} {od17 an17 : Option Addr} {sl17 : Array (Option Value)} {oc17 kV17 dc17 pm17 cd17 ct17 : Value} {f18 : Addr} {od18 an18 : Option Addr} {sl18 : Array (Option Value)} {oc18 kV18 dc18 pm18 cd18 ct18 : Value} {f19 : Addr} {od19 an19 : Option Addr} {sl19 : Array (Option Value)} {oc19 kV19 dc19 pm19 cd19 ct19 : Value} {f20 : Addr} {od20 an20 : Option Addr} {sl20 : Array (Option Value)} {oc20 kV20 dc20 pm20 cd20 ct20 : Value} {f21 : Addr} {od21 an21 : Option Addr} {sl21 : Array (Option Value)} {oc21 kV21 dc21 pm21 cd21 ct21 : Value} {f22 : Addr} {od22 an22 : Option Addr} {sl22 : Array (Option Value)} {oc22 kV22 dc22 pm22 cd22 ct22 : Value} {f23 : Addr} {od23 an23 : Option Addr} {sl23 : Array (Option Value)} {oc23 kV23 dc23 pm23 cd23 ct23 : Value} {f24 : Addr} {od24 an24 : Option Addr} {sl24 : Array (Option Value)} {oc24 kV24 dc24 pm24 cd24 ct24 : Value} {f25 : Addr} {od25 an25 : Option Addr} {sl25 : Array (Option Value)} {oc25 kV25 dc25 pm25 cd25 ct25 : Value} {f26 : Addr} {od26 an26 : Option Addr} {sl26 : Array (Option Value)} {oc26 kV26 dc26 pm26 cd26 ct26 : Value} {f27 : Addr} {od27 an27 : Option Addr} {sl27 : Array (Option Value)} {oc27 kV27 dc27 pm27 cd27 ct27 : Value} {f28 : Addr} {od28 an28 : Option Addr} {sl28 : Array (Option Value)} {oc28 kV28 dc28 pm28 cd28 ct28 : Value} {f29 : Addr} {od29 an29 : Option Addr} {sl29 : Array (Option Value)} {oc29 kV29 dc29 pm29 cd29 ct29 : Value} {f30 : Addr} {od30 an30 : Option Addr} {sl30 : Array (Option Value)} {oc30 kV30 dc30 pm30 cd30 ct30 : Value} {f31 : Addr} {od31 an31 : Option Addr} {sl31 : Array (Option Value)} {oc31 kV31 dc31 pm31 cd31 ct31 : Value} {f32 : Addr} {od32 an32 : Option Addr} {sl32 : Array (Option Value)} {oc32 kV32 dc32 pm32 cd32 ct32 : Value} {f33 : Addr} {od33 an33 : Option Addr} {sl33 : Array (Option Value)} {oc33 kV33 dc33 pm33 cd33 ct33 : Value} {f34 : Addr} {od34 an34 : Option Addr} {sl34 : Array (Option Value)} {oc34 kV34 dc34 pm34 cd34 ct34 : Value} {t_MAX_RANK : Tok} {t_MAX_STEPPED : Tok} {t_MAX_WEIGHT : Tok} {t_MAX_WORLDS : Tok} {CM C0 C1 C2 C3 C4 : Addr}
    (a0 : PySem.W.nsIn K mainGlobals "_law_next" = some (some (.ref f0)))
    (l0 : K.lookup f0 = some ⟨oc0, od0, .func (PySem.W.fnOf "_law_next" "_law_next" (defArgs (top 34)) (defBody (top 34)) (defScope (top 34)) .none kV0 dc0 pm0 an0 cd0 ct0), sl0⟩)
    (c0 : PySem.W.codeIn K cd0 "_law_next" = true)
    (k0 : PySem.W.keepIn K (.ref f0) = true)
    (a1 : PySem.W.nsIn K mainGlobals "_law_error" = some (some (.ref f1)))
    (l1 : K.lookup f1 = some ⟨oc1, od1, .func (PySem.W.fnOf "_law_error" "_law_error" (defArgs (top 35)) (defBody (top 35)) (defScope (top 35)) .none kV1 dc1 pm1 an1 cd1 ct1), sl1⟩)
    (c1 : PySem.W.codeIn K cd1 "_law_error" = true)
    (k1 : PySem.W.keepIn K (.ref f1) = true)
    (a2 : PySem.W.nsIn K mainGlobals "check_many" = some (some (.ref f2)))
    (l2 : K.lookup f2 = some ⟨oc2, od2, .func (PySem.W.fnOf "check_many" "check_many" (defArgs (top 9)) (defBody (top 9)) (defScope (top 9)) .none kV2 dc2 pm2 an2 cd2 ct2), sl2⟩)
    (c2 : PySem.W.codeIn K cd2 "check_many" = true)
    (k2 : PySem.W.keepIn K (.ref f2) = true)
    (a3 : PySem.W.nsIn K mainGlobals "members" = some (some (.ref f3)))
    (l3 : K.lookup f3 = some ⟨oc3, od3, .func (PySem.W.fnOf "members" "members" (defArgs (top 11)) (defBody (top 11)) (defScope (top 11)) .none kV3 dc3 pm3 an3 cd3 ct3), sl3⟩)
    (c3 : PySem.W.codeIn K cd3 "members" = true)
    (k3 : PySem.W.keepIn K (.ref f3) = true)
    (a4 : PySem.W.nsIn K mainGlobals "_law_same" = some (some (.ref f4)))
    (l4 : K.lookup f4 = some ⟨oc4, od4, .func (PySem.W.fnOf "_law_same" "_law_same" (defArgs (top 32)) (defBody (top 32)) (defScope (top 32)) .none kV4 dc4 pm4 an4 cd4 ct4), sl4⟩)
    (c4 : PySem.W.codeIn K cd4 "_law_same" = true)
    (k4 : PySem.W.keepIn K (.ref f4) = true)
    (a5 : PySem.W.nsIn K mainGlobals "_law_stream" = some (some (.ref f5)))
    (l5 : K.lookup f5 = some ⟨oc5, od5, .func (PySem.W.fnOf "_law_stream" "_law_stream" (defArgs (top 33)) (defBody (top 33)) (defScope (top 33)) .none kV5 dc5 pm5 an5 cd5 ct5), sl5⟩)
    (c5 : PySem.W.codeIn K cd5 "_law_stream" = true)
    (k5 : PySem.W.keepIn K (.ref f5) = true)
    (a6 : PySem.W.nsIn K mainGlobals "_law_low" = some (some (.ref f6)))
    (l6 : K.lookup f6 = some ⟨oc6, od6, .func (PySem.W.fnOf "_law_low" "_law_low" (defArgs (top 36)) (defBody (top 36)) (defScope (top 36)) .none kV6 dc6 pm6 an6 cd6 ct6), sl6⟩)
    (c6 : PySem.W.codeIn K cd6 "_law_low" = true)
    (k6 : PySem.W.keepIn K (.ref f6) = true)
    (a7 : PySem.W.nsIn K mainGlobals "_law_weight" = some (some (.ref f7)))
    (l7 : K.lookup f7 = some ⟨oc7, od7, .func (PySem.W.fnOf "_law_weight" "_law_weight" (defArgs (top 40)) (defBody (top 40)) (defScope (top 40)) .none kV7 dc7 pm7 an7 cd7 ct7), sl7⟩)
    (c7 : PySem.W.codeIn K cd7 "_law_weight" = true)
    (k7 : PySem.W.keepIn K (.ref f7) = true)
    (a8 : PySem.W.nsIn K mainGlobals "_law_stepped" = some (some (.ref f8)))
    (l8 : K.lookup f8 = some ⟨oc8, od8, .func (PySem.W.fnOf "_law_stepped" "_law_stepped" (defArgs (top 45)) (defBody (top 45)) (defScope (top 45)) .none kV8 dc8 pm8 an8 cd8 ct8), sl8⟩)
    (c8 : PySem.W.codeIn K cd8 "_law_stepped" = true)
    (k8 : PySem.W.keepIn K (.ref f8) = true)
    (a9 : PySem.W.nsIn K mainGlobals "_law_nearly" = some (some (.ref f9)))
    (l9 : K.lookup f9 = some ⟨oc9, od9, .func (PySem.W.fnOf "_law_nearly" "_law_nearly" (defArgs (top 46)) (defBody (top 46)) (defScope (top 46)) .none kV9 dc9 pm9 an9 cd9 ct9), sl9⟩)
    (c9 : PySem.W.codeIn K cd9 "_law_nearly" = true)
    (k9 : PySem.W.keepIn K (.ref f9) = true)
    (a10 : PySem.W.nsIn K mainGlobals "check_set" = some (some (.ref f10)))
    (l10 : K.lookup f10 = some ⟨oc10, od10, .func (PySem.W.fnOf "check_set" "check_set" (defArgs (top 10)) (defBody (top 10)) (defScope (top 10)) .none kV10 dc10 pm10 an10 cd10 ct10), sl10⟩)
    (c10 : PySem.W.codeIn K cd10 "check_set" = true)
    (k10 : PySem.W.keepIn K (.ref f10) = true)
    (a11 : PySem.W.nsIn K mainGlobals "check_weights" = some (some (.ref f11)))
    (l11 : K.lookup f11 = some ⟨oc11, od11, .func (PySem.W.fnOf "check_weights" "check_weights" (defArgs (top 14)) (defBody (top 14)) (defScope (top 14)) .none kV11 dc11 pm11 an11 cd11 ct11), sl11⟩)
    (c11 : PySem.W.codeIn K cd11 "check_weights" = true)
    (k11 : PySem.W.keepIn K (.ref f11) = true)
    (a12 : PySem.W.nsIn K mainGlobals "sum_of" = some (some (.ref f12)))
    (l12 : K.lookup f12 = some ⟨oc12, od12, .func (PySem.W.fnOf "sum_of" "sum_of" (defArgs (top 15)) (defBody (top 15)) (defScope (top 15)) .none kV12 dc12 pm12 an12 cd12 ct12), sl12⟩)
    (c12 : PySem.W.codeIn K cd12 "sum_of" = true)
    (k12 : PySem.W.keepIn K (.ref f12) = true)
    (a13 : PySem.W.nsIn K mainGlobals "check_ranks" = some (some (.ref f13)))
    (l13 : K.lookup f13 = some ⟨oc13, od13, .func (PySem.W.fnOf "check_ranks" "check_ranks" (defArgs (top 18)) (defBody (top 18)) (defScope (top 18)) .none kV13 dc13 pm13 an13 cd13 ct13), sl13⟩)
    (c13 : PySem.W.codeIn K cd13 "check_ranks" = true)
    (k13 : PySem.W.keepIn K (.ref f13) = true)
    (a14 : PySem.W.nsIn K mainGlobals "least_of" = some (some (.ref f14)))
    (l14 : K.lookup f14 = some ⟨oc14, od14, .func (PySem.W.fnOf "least_of" "least_of" (defArgs (top 19)) (defBody (top 19)) (defScope (top 19)) .none kV14 dc14 pm14 an14 cd14 ct14), sl14⟩)
    (c14 : PySem.W.codeIn K cd14 "least_of" = true)
    (k14 : PySem.W.keepIn K (.ref f14) = true)
    (a15 : PySem.W.nsIn K mainGlobals "_law_lowest" = some (some (.ref f15)))
    (l15 : K.lookup f15 = some ⟨oc15, od15, .func (PySem.W.fnOf "_law_lowest" "_law_lowest" (defArgs (top 37)) (defBody (top 37)) (defScope (top 37)) .none kV15 dc15 pm15 an15 cd15 ct15), sl15⟩)
    (c15 : PySem.W.codeIn K cd15 "_law_lowest" = true)
    (k15 : PySem.W.keepIn K (.ref f15) = true)
    (a16 : PySem.W.nsIn K mainGlobals "_law_drawn_ranks" = some (some (.ref f16)))
    (l16 : K.lookup f16 = some ⟨oc16, od16, .func (PySem.W.fnOf "_law_drawn_ranks" "_law_drawn_ranks" (defArgs (top 38)) (defBody (top 38)) (defScope (top 38)) .none kV16 dc16 pm16 an16 cd16 ct16), sl16⟩)
    (c16 : PySem.W.codeIn K cd16 "_law_drawn_ranks" = true)
    (k16 : PySem.W.keepIn K (.ref f16) = true)
    (a17 : PySem.W.nsIn K mainGlobals "_law_drawn_set" = some (some (.ref f17)))
    (l17 : K.lookup f17 = some ⟨oc17, od17, .func (PySem.W.fnOf "_law_drawn_set" "_law_drawn_set" (defArgs (top 39)) (defBody (top 39)) (defScope (top 39)) .none kV17 dc17 pm17 an17 cd17 ct17), sl17⟩)
    (c17 : PySem.W.codeIn K cd17 "_law_drawn_set" = true)
    (k17 : PySem.W.keepIn K (.ref f17) = true)
    (a18 : PySem.W.nsIn K mainGlobals "_law_drawn_weights" = some (some (.ref f18)))
    (l18 : K.lookup f18 = some ⟨oc18, od18, .func (PySem.W.fnOf "_law_drawn_weights" "_law_drawn_weights" (defArgs (top 42)) (defBody (top 42)) (defScope (top 42)) .none kV18 dc18 pm18 an18 cd18 ct18), sl18⟩)
    (c18 : PySem.W.codeIn K cd18 "_law_drawn_weights" = true)
    (k18 : PySem.W.keepIn K (.ref f18) = true)
    (a19 : PySem.W.nsIn K mainGlobals "_law_accepted" = some (some (.ref f19)))
    (l19 : K.lookup f19 = some ⟨oc19, od19, .func (PySem.W.fnOf "_law_accepted" "_law_accepted" (defArgs (top 43)) (defBody (top 43)) (defScope (top 43)) .none kV19 dc19 pm19 an19 cd19 ct19), sl19⟩)
    (c19 : PySem.W.codeIn K cd19 "_law_accepted" = true)
    (k19 : PySem.W.keepIn K (.ref f19) = true)
    (a20 : PySem.W.nsIn K mainGlobals "accepts" = some (some (.ref f20)))
    (l20 : K.lookup f20 = some ⟨oc20, od20, .func (PySem.W.fnOf "accepts" "accepts" (defArgs (top 22)) (defBody (top 22)) (defScope (top 22)) .none kV20 dc20 pm20 an20 cd20 ct20), sl20⟩)
    (c20 : PySem.W.codeIn K cd20 "accepts" = true)
    (k20 : PySem.W.keepIn K (.ref f20) = true)
    (a21 : PySem.W.nsIn K mainGlobals "has_big_steps" = some (some (.ref f21)))
    (l21 : K.lookup f21 = some ⟨oc21, od21, .func (PySem.W.fnOf "has_big_steps" "has_big_steps" (defArgs (top 23)) (defBody (top 23)) (defScope (top 23)) .none kV21 dc21 pm21 an21 cd21 ct21), sl21⟩)
    (c21 : PySem.W.codeIn K cd21 "has_big_steps" = true)
    (k21 : PySem.W.keepIn K (.ref f21) = true)
    (a22 : PySem.W.nsIn K mainGlobals "closes_under" = some (some (.ref f22)))
    (l22 : K.lookup f22 = some ⟨oc22, od22, .func (PySem.W.fnOf "closes_under" "closes_under" (defArgs (top 25)) (defBody (top 25)) (defScope (top 25)) .none kV22 dc22 pm22 an22 cd22 ct22), sl22⟩)
    (c22 : PySem.W.codeIn K cd22 "closes_under" = true)
    (k22 : PySem.W.keepIn K (.ref f22) = true)
    (a23 : PySem.W.nsIn K mainGlobals "parting_sets" = some (some (.ref f23)))
    (l23 : K.lookup f23 = some ⟨oc23, od23, .func (PySem.W.fnOf "parting_sets" "parting_sets" (defArgs (top 26)) (defBody (top 26)) (defScope (top 26)) .none kV23 dc23 pm23 an23 cd23 ct23), sl23⟩)
    (c23 : PySem.W.codeIn K cd23 "parting_sets" = true)
    (k23 : PySem.W.keepIn K (.ref f23) = true)
    (a24 : PySem.W.nsIn K mainGlobals "stepped_weights" = some (some (.ref f24)))
    (l24 : K.lookup f24 = some ⟨oc24, od24, .func (PySem.W.fnOf "stepped_weights" "stepped_weights" (defArgs (top 27)) (defBody (top 27)) (defScope (top 27)) .none kV24 dc24 pm24 an24 cd24 ct24), sl24⟩)
    (c24 : PySem.W.codeIn K cd24 "stepped_weights" = true)
    (k24 : PySem.W.keepIn K (.ref f24) = true)
    (a25 : PySem.W.nsIn K mainGlobals "heaviest" = some (some (.ref f25)))
    (l25 : K.lookup f25 = some ⟨oc25, od25, .func (PySem.W.fnOf "heaviest" "heaviest" (defArgs (top 29)) (defBody (top 29)) (defScope (top 29)) .none kV25 dc25 pm25 an25 cd25 ct25), sl25⟩)
    (c25 : PySem.W.codeIn K cd25 "heaviest" = true)
    (k25 : PySem.W.keepIn K (.ref f25) = true)
    (a26 : PySem.W.nsIn K mainGlobals "same_as_ranks" = some (some (.ref f26)))
    (l26 : K.lookup f26 = some ⟨oc26, od26, .func (PySem.W.fnOf "same_as_ranks" "same_as_ranks" (defArgs (top 30)) (defBody (top 30)) (defScope (top 30)) .none kV26 dc26 pm26 an26 cd26 ct26), sl26⟩)
    (c26 : PySem.W.codeIn K cd26 "same_as_ranks" = true)
    (k26 : PySem.W.keepIn K (.ref f26) = true)
    (a27 : PySem.W.nsIn K mainGlobals "_law_parts" = some (some (.ref f27)))
    (l27 : K.lookup f27 = some ⟨oc27, od27, .func (PySem.W.fnOf "_law_parts" "_law_parts" (defArgs (top 44)) (defBody (top 44)) (defScope (top 44)) .none kV27 dc27 pm27 an27 cd27 ct27), sl27⟩)
    (c27 : PySem.W.codeIn K cd27 "_law_parts" = true)
    (k27 : PySem.W.keepIn K (.ref f27) = true)
    (a28 : PySem.W.nsIn K mainGlobals "_law_alike" = some (some (.ref f28)))
    (l28 : K.lookup f28 = some ⟨oc28, od28, .func (PySem.W.fnOf "_law_alike" "_law_alike" (defArgs (top 47)) (defBody (top 47)) (defScope (top 47)) .none kV28 dc28 pm28 an28 cd28 ct28), sl28⟩)
    (c28 : PySem.W.codeIn K cd28 "_law_alike" = true)
    (k28 : PySem.W.keepIn K (.ref f28) = true)
    (a29 : PySem.W.nsIn K mainGlobals "closes" = some (some (.ref f29)))
    (l29 : K.lookup f29 = some ⟨oc29, od29, .func (PySem.W.fnOf "closes" "closes" (defArgs (top 24)) (defBody (top 24)) (defScope (top 24)) .none kV29 dc29 pm29 an29 cd29 ct29), sl29⟩)
    (c29 : PySem.W.codeIn K cd29 "closes" = true)
    (k29 : PySem.W.keepIn K (.ref f29) = true)
    (a30 : PySem.W.nsIn K mainGlobals "stepped_ranks" = some (some (.ref f30)))
    (l30 : K.lookup f30 = some ⟨oc30, od30, .func (PySem.W.fnOf "stepped_ranks" "stepped_ranks" (defArgs (top 28)) (defBody (top 28)) (defScope (top 28)) .none kV30 dc30 pm30 an30 cd30 ct30), sl30⟩)
    (c30 : PySem.W.codeIn K cd30 "stepped_ranks" = true)
    (k30 : PySem.W.keepIn K (.ref f30) = true)
    (a31 : PySem.W.nsIn K mainGlobals "_law_told" = some (some (.ref f31)))
    (l31 : K.lookup f31 = some ⟨oc31, od31, .func (PySem.W.fnOf "_law_told" "_law_told" (defArgs (top 41)) (defBody (top 41)) (defScope (top 41)) .none kV31 dc31 pm31 an31 cd31 ct31), sl31⟩)
    (c31 : PySem.W.codeIn K cd31 "_law_told" = true)
    (k31 : PySem.W.keepIn K (.ref f31) = true)
    (a32 : PySem.W.nsIn K mainGlobals "_law_fits" = some (some (.ref f32)))
    (l32 : K.lookup f32 = some ⟨oc32, od32, .func (PySem.W.fnOf "_law_fits" "_law_fits" (defArgs (top 48)) (defBody (top 48)) (defScope (top 48)) .none kV32 dc32 pm32 an32 cd32 ct32), sl32⟩)
    (c32 : PySem.W.codeIn K cd32 "_law_fits" = true)
    (k32 : PySem.W.keepIn K (.ref f32) = true)
    (a33 : PySem.W.nsIn K mainGlobals "_law_from_ranks" = some (some (.ref f33)))
    (l33 : K.lookup f33 = some ⟨oc33, od33, .func (PySem.W.fnOf "_law_from_ranks" "_law_from_ranks" (defArgs (top 49)) (defBody (top 49)) (defScope (top 49)) .none kV33 dc33 pm33 an33 cd33 ct33), sl33⟩)
    (c33 : PySem.W.codeIn K cd33 "_law_from_ranks" = true)
    (k33 : PySem.W.keepIn K (.ref f33) = true)
    (a34 : PySem.W.nsIn K mainGlobals "law" = some (some (.ref f34)))
    (l34 : K.lookup f34 = some ⟨oc34, od34, .func (PySem.W.fnOf "law" "law" (defArgs (top 50)) (defBody (top 50)) (defScope (top 50)) .none kV34 dc34 pm34 an34 cd34 ct34), sl34⟩)
    (c34 : PySem.W.codeIn K cd34 "law" = true)
    (k34 : PySem.W.keepIn K (.ref f34) = true)
    (z_abs : PySem.W.nsIn K mainGlobals "abs" = some none)
    (z_all : PySem.W.nsIn K mainGlobals "all" = some none)
    (z_any : PySem.W.nsIn K mainGlobals "any" = some none)
    (z_enumerate : PySem.W.nsIn K mainGlobals "enumerate" = some none)
    (z_int : PySem.W.nsIn K mainGlobals "int" = some none)
    (z_isinstance : PySem.W.nsIn K mainGlobals "isinstance" = some none)
    (z_len : PySem.W.nsIn K mainGlobals "len" = some none)
    (z_list : PySem.W.nsIn K mainGlobals "list" = some none)
    (z_max : PySem.W.nsIn K mainGlobals "max" = some none)
    (z_min : PySem.W.nsIn K mainGlobals "min" = some none)
    (z_range : PySem.W.nsIn K mainGlobals "range" = some none)
    (z_repr : PySem.W.nsIn K mainGlobals "repr" = some none)
    (z_set : PySem.W.nsIn K mainGlobals "set" = some none)
    (z_sorted : PySem.W.nsIn K mainGlobals "sorted" = some none)
    (z_str : PySem.W.nsIn K mainGlobals "str" = some none)
    (z_sum : PySem.W.nsIn K mainGlobals "sum" = some none)
    (z_tuple : PySem.W.nsIn K mainGlobals "tuple" = some none)
    (z_zip : PySem.W.nsIn K mainGlobals "zip" = some none)
    (u_MAX_RANK : PySem.W.nsIn K mainGlobals "MAX_RANK" = some (some (.int 1000 t_MAX_RANK)))
    (u_MAX_STEPPED : PySem.W.nsIn K mainGlobals "MAX_STEPPED" = some (some (.int 18 t_MAX_STEPPED)))
    (u_MAX_WEIGHT : PySem.W.nsIn K mainGlobals "MAX_WEIGHT" = some (some (.int 1000000 t_MAX_WEIGHT)))
    (u_MAX_WORLDS : PySem.W.nsIn K mainGlobals "MAX_WORLDS" = some (some (.int 32 t_MAX_WORLDS)))
    (aM : PySem.W.nsIn K mainGlobals "MindError" = some (some (.ref CM)))
    (bM : PySem.W.subIn K (.ref CM) (.type "BaseException") = some true)
    (dM : PySem.W.hasDictIn K CM = true)
    (tM : PySem.W.typeIn K (.ref CM) = some (.type "type"))
    (aE0 : PySem.W.nsIn K mainGlobals "NotAllowed" = some (some (.ref C0)))
    (xE0 : PySem.W.excIn K C0 [.type "ValueError", .type "Exception", .type "BaseException", .type "object"] "ValueError.__new__" = true)
    (kE0 : PySem.W.keepIn K (.ref C0) = true)
    (bE0 : PySem.W.subIn K (.ref C0) (.type "BaseException") = some true)
    (tE0 : PySem.W.typeIn K (.ref C0) = some (.type "type"))
    (mE0 : PySem.W.subIn K (.ref C0) (.ref CM) = some true)
    (gE0 : PySem.W.findIn K (.ref C0) "__getattribute__" = some (some (.builtin "BaseException.__getattribute__")))
    (hE0 : PySem.W.findIn K (.ref C0) "__getattr__" = some none)
    (dE0 : PySem.W.hasDictIn K C0 = true)
    (cE0 : PySem.W.findIn K (.ref C0) "__class__" = some (some (.builtin "object.__class__")))
    (oE0 : PySem.W.mroIn K C0 (.type "object") = some true)
    (r0 : PySem.W.subIn K (.ref C0) (.ref C0) = some true)
    (s01 : PySem.W.subIn K (.ref C0) (.ref C1) = some false)
    (s02 : PySem.W.subIn K (.ref C0) (.ref C2) = some false)
    (s03 : PySem.W.subIn K (.ref C0) (.ref C3) = some false)
    (s04 : PySem.W.subIn K (.ref C0) (.ref C4) = some false)
    (aE1 : PySem.W.nsIn K mainGlobals "TooLarge" = some (some (.ref C1)))
    (xE1 : PySem.W.excIn K C1 [.type "ValueError", .type "Exception", .type "BaseException", .type "object"] "ValueError.__new__" = true)
    (kE1 : PySem.W.keepIn K (.ref C1) = true)
    (bE1 : PySem.W.subIn K (.ref C1) (.type "BaseException") = some true)
    (tE1 : PySem.W.typeIn K (.ref C1) = some (.type "type"))
    (mE1 : PySem.W.subIn K (.ref C1) (.ref CM) = some true)
    (gE1 : PySem.W.findIn K (.ref C1) "__getattribute__" = some (some (.builtin "BaseException.__getattribute__")))
    (hE1 : PySem.W.findIn K (.ref C1) "__getattr__" = some none)
    (dE1 : PySem.W.hasDictIn K C1 = true)
    (cE1 : PySem.W.findIn K (.ref C1) "__class__" = some (some (.builtin "object.__class__")))
    (oE1 : PySem.W.mroIn K C1 (.type "object") = some true)
    (r1 : PySem.W.subIn K (.ref C1) (.ref C1) = some true)
    (s10 : PySem.W.subIn K (.ref C1) (.ref C0) = some false)
    (s12 : PySem.W.subIn K (.ref C1) (.ref C2) = some false)
    (s13 : PySem.W.subIn K (.ref C1) (.ref C3) = some false)
    (s14 : PySem.W.subIn K (.ref C1) (.ref C4) = some false)
    (aE2 : PySem.W.nsIn K mainGlobals "Missing" = some (some (.ref C2)))
    (xE2 : PySem.W.excIn K C2 [.type "ValueError", .type "Exception", .type "BaseException", .type "object"] "ValueError.__new__" = true)
    (kE2 : PySem.W.keepIn K (.ref C2) = true)
    (bE2 : PySem.W.subIn K (.ref C2) (.type "BaseException") = some true)
    (tE2 : PySem.W.typeIn K (.ref C2) = some (.type "type"))
    (mE2 : PySem.W.subIn K (.ref C2) (.ref CM) = some true)
    (gE2 : PySem.W.findIn K (.ref C2) "__getattribute__" = some (some (.builtin "BaseException.__getattribute__")))
    (hE2 : PySem.W.findIn K (.ref C2) "__getattr__" = some none)
    (dE2 : PySem.W.hasDictIn K C2 = true)
    (cE2 : PySem.W.findIn K (.ref C2) "__class__" = some (some (.builtin "object.__class__")))
    (oE2 : PySem.W.mroIn K C2 (.type "object") = some true)
    (r2 : PySem.W.subIn K (.ref C2) (.ref C2) = some true)
    (s20 : PySem.W.subIn K (.ref C2) (.ref C0) = some false)
    (s21 : PySem.W.subIn K (.ref C2) (.ref C1) = some false)
    (s23 : PySem.W.subIn K (.ref C2) (.ref C3) = some false)
    (s24 : PySem.W.subIn K (.ref C2) (.ref C4) = some false)
    (aE3 : PySem.W.nsIn K mainGlobals "BadPaper" = some (some (.ref C3)))
    (xE3 : PySem.W.excIn K C3 [.type "ValueError", .type "Exception", .type "BaseException", .type "object"] "ValueError.__new__" = true)
    (kE3 : PySem.W.keepIn K (.ref C3) = true)
    (bE3 : PySem.W.subIn K (.ref C3) (.type "BaseException") = some true)
    (tE3 : PySem.W.typeIn K (.ref C3) = some (.type "type"))
    (mE3 : PySem.W.subIn K (.ref C3) (.ref CM) = some true)
    (gE3 : PySem.W.findIn K (.ref C3) "__getattribute__" = some (some (.builtin "BaseException.__getattribute__")))
    (hE3 : PySem.W.findIn K (.ref C3) "__getattr__" = some none)
    (dE3 : PySem.W.hasDictIn K C3 = true)
    (cE3 : PySem.W.findIn K (.ref C3) "__class__" = some (some (.builtin "object.__class__")))
    (oE3 : PySem.W.mroIn K C3 (.type "object") = some true)
    (r3 : PySem.W.subIn K (.ref C3) (.ref C3) = some true)
    (s30 : PySem.W.subIn K (.ref C3) (.ref C0) = some false)
    (s31 : PySem.W.subIn K (.ref C3) (.ref C1) = some false)
    (s32 : PySem.W.subIn K (.ref C3) (.ref C2) = some false)
    (s34 : PySem.W.subIn K (.ref C3) (.ref C4) = some false)
    (aE4 : PySem.W.nsIn K mainGlobals "BadForm" = some (some (.ref C4)))
    (bE4 : PySem.W.subIn K (.ref C4) (.type "BaseException") = some true)
    (tE4 : PySem.W.typeIn K (.ref C4) = some (.type "type"))
    (mE4 : PySem.W.subIn K (.ref C4) (.ref CM) = some true)
    (gE4 : PySem.W.findIn K (.ref C4) "__getattribute__" = some (some (.builtin "BaseException.__getattribute__")))
    (hE4 : PySem.W.findIn K (.ref C4) "__getattr__" = some none)
    (dE4 : PySem.W.hasDictIn K C4 = true)
    (cE4 : PySem.W.findIn K (.ref C4) "__class__" = some (some (.builtin "object.__class__")))
    (oE4 : PySem.W.mroIn K C4 (.type "object") = some true)
    (r4 : PySem.W.subIn K (.ref C4) (.ref C4) = some true)
    (s40 : PySem.W.subIn K (.ref C4) (.ref C0) = some false)
    (s41 : PySem.W.subIn K (.ref C4) (.ref C1) = some false)
    (s42 : PySem.W.subIn K (.ref C4) (.ref C2) = some false)
    (s43 : PySem.W.subIn K (.ref C4) (.ref C3) = some false)
    (nE : PySem.W.specialIn K (.builtin "object.__class__") "__get__" = some (some (.builtin "getset_descriptor.__get__")))
    (vE : PySem.W.takesIn K (.builtin "object.__class__") = some true)
    : ∃ fd : FuncData, (∀ (s : Shared) (v : Value), BindsTo s fd ⟨[v], []⟩ [("script", v)]) ∧ ∀ base : Heap, K.In base → base.Ns mainGlobals mg → FnG P w K mg base 7 fa fd ["script"] (spLaw K 63) := by
  have e := hfa.symm.trans (PySem.W.mg_of X G a34)
  cases e
  have F0 := fun_mk (st := top 34) l0 c0 k0
  have F1 := fun_mk (st := top 35) l1 c1 k1
  have F2 := fun_mk (st := top 9) l2 c2 k2
  have F3 := fun_mk (st := top 11) l3 c3 k3
  have F4 := fun_mk (st := top 32) l4 c4 k4
  have F5 := fun_mk (st := top 33) l5 c5 k5
  have F6 := fun_mk (st := top 36) l6 c6 k6
  have F7 := fun_mk (st := top 40) l7 c7 k7
  have F8 := fun_mk (st := top 45) l8 c8 k8
  have F9 := fun_mk (st := top 46) l9 c9 k9
  have F10 := fun_mk (st := top 10) l10 c10 k10
  have F11 := fun_mk (st := top 14) l11 c11 k11
  have F12 := fun_mk (st := top 15) l12 c12 k12
  have F13 := fun_mk (st := top 18) l13 c13 k13
  have F14 := fun_mk (st := top 19) l14 c14 k14
  have F15 := fun_mk (st := top 37) l15 c15 k15
  have F16 := fun_mk (st := top 38) l16 c16 k16
  have F17 := fun_mk (st := top 39) l17 c17 k17
  have F18 := fun_mk (st := top 42) l18 c18 k18
  have F19 := fun_mk (st := top 43) l19 c19 k19
  have F20 := fun_mk (st := top 22) l20 c20 k20
  have F21 := fun_mk (st := top 23) l21 c21 k21
  have F22 := fun_mk (st := top 25) l22 c22 k22
  have F23 := fun_mk (st := top 26) l23 c23 k23
  have F24 := fun_mk (st := top 27) l24 c24 k24
  have F25 := fun_mk (st := top 29) l25 c25 k25
  have F26 := fun_mk (st := top 30) l26 c26 k26
  have F27 := fun_mk (st := top 44) l27 c27 k27
  have F28 := fun_mk (st := top 47) l28 c28 k28
  have F29 := fun_mk (st := top 24) l29 c29 k29
  have F30 := fun_mk (st := top 28) l30 c30 k30
  have F31 := fun_mk (st := top 41) l31 c31 k31
  have F32 := fun_mk (st := top 48) l32 c32 k32
  have F33 := fun_mk (st := top 49) l33 c33 k33
  have F34 := fun_mk (st := top 50) l34 c34 k34
  refine ⟨PySem.W.fnOf "law" "law" (defArgs (top 50)) (defBody (top 50)) (defScope (top 50)) .none kV34 dc34 pm34 an34 cd34 ct34, fun s v => .of_eq rfl, fun base _ _ => ?_⟩
  have ER : ErrAll K mg (fun i => match i with | 0 => C0 | 1 => C1 | 2 => C2 | 3 => C3 | _ => C4) := by
    refine ⟨PySem.W.mg_of X G aE0, PySem.W.mg_of X G aE1, PySem.W.mg_of X G aE2, PySem.W.mg_of X G aE3, PySem.W.mg_of X G aE4, fun i hi => ?_, fun i j hi hj => ?_⟩
    · match i, hi with
      | 0, _ => exact ⟨gE0, hE0, bE0, dE0, cE0, nE, vE, oE0⟩
      | 1, _ => exact ⟨gE1, hE1, bE1, dE1, cE1, nE, vE, oE1⟩
      | 2, _ => exact ⟨gE2, hE2, bE2, dE2, cE2, nE, vE, oE2⟩
      | 3, _ => exact ⟨gE3, hE3, bE3, dE3, cE3, nE, vE, oE3⟩
      | 4, _ => exact ⟨gE4, hE4, bE4, dE4, cE4, nE, vE, oE4⟩
    · match i, hi, j, hj with
      | 0, _, 0, _ => exact kit_same
      | 0, _, 1, _ => exact kit_diff r1 dE1 tE1 s01
      | 0, _, 2, _ => exact kit_diff r2 dE2 tE2 s02
      | 0, _, 3, _ => exact kit_diff r3 dE3 tE3 s03
      | 0, _, 4, _ => exact kit_diff r4 dE4 tE4 s04
      | 1, _, 0, _ => exact kit_diff r0 dE0 tE0 s10
      | 1, _, 1, _ => exact kit_same
      | 1, _, 2, _ => exact kit_diff r2 dE2 tE2 s12
      | 1, _, 3, _ => exact kit_diff r3 dE3 tE3 s13
      | 1, _, 4, _ => exact kit_diff r4 dE4 tE4 s14
      | 2, _, 0, _ => exact kit_diff r0 dE0 tE0 s20
      | 2, _, 1, _ => exact kit_diff r1 dE1 tE1 s21
      | 2, _, 2, _ => exact kit_same
      | 2, _, 3, _ => exact kit_diff r3 dE3 tE3 s23
      | 2, _, 4, _ => exact kit_diff r4 dE4 tE4 s24
      | 3, _, 0, _ => exact kit_diff r0 dE0 tE0 s30
      | 3, _, 1, _ => exact kit_diff r1 dE1 tE1 s31
      | 3, _, 2, _ => exact kit_diff r2 dE2 tE2 s32
      | 3, _, 3, _ => exact kit_same
      | 3, _, 4, _ => exact kit_diff r4 dE4 tE4 s34
      | 4, _, 0, _ => exact kit_diff r0 dE0 tE0 s40
      | 4, _, 1, _ => exact kit_diff r1 dE1 tE1 s41
      | 4, _, 2, _ => exact kit_diff r2 dE2 tE2 s42
      | 4, _, 3, _ => exact kit_diff r3 dE3 tE3 s43
      | 4, _, 4, _ => exact kit_same
  have Y : Hy P w K mg base (fun i => match i with | 0 => C0 | 1 => C1 | 2 => C2 | 3 => C3 | _ => C4) := ⟨⟨PySem.W.mg_none_of X G z_abs, PySem.W.mg_none_of X G z_all, PySem.W.mg_none_of X G z_any, PySem.W.mg_none_of X G z_enumerate, PySem.W.mg_none_of X G z_int, PySem.W.mg_none_of X G z_isinstance, PySem.W.mg_none_of X G z_len, PySem.W.mg_none_of X G z_list, PySem.W.mg_none_of X G z_max, PySem.W.mg_none_of X G z_min, PySem.W.mg_none_of X G z_range, PySem.W.mg_none_of X G z_repr, PySem.W.mg_none_of X G z_set, PySem.W.mg_none_of X G z_sorted, PySem.W.mg_none_of X G z_str, PySem.W.mg_none_of X G z_sum, PySem.W.mg_none_of X G z_tuple, PySem.W.mg_none_of X G z_zip⟩, ER, ⟨PySem.W.mg_of X G aE0, xE0, kE0, bE0, tE0⟩, ⟨PySem.W.mg_of X G aE1, xE1, kE1, bE1, tE1⟩, ⟨PySem.W.mg_of X G aE2, xE2, kE2, bE2, tE2⟩, ⟨PySem.W.mg_of X G aE3, xE3, kE3, bE3, tE3⟩, ⟨_, PySem.W.mg_of X G u_MAX_RANK⟩, ⟨_, PySem.W.mg_of X G u_MAX_STEPPED⟩, ⟨_, PySem.W.mg_of X G u_MAX_WEIGHT⟩, ⟨_, PySem.W.mg_of X G u_MAX_WORLDS⟩⟩
  have h__law_next := df__law_next Y ⟨_, _, F0, PySem.W.mg_of X G a0⟩
  have Y2 := fe__law_error Y ⟨_, _, F1, PySem.W.mg_of X G a1⟩ (PySem.W.mg_of X G aM) (fun er => by cases er with
    | na => exact PySem.W.exm_ref bM dM tM mE0
    | tl => exact PySem.W.exm_ref bM dM tM mE1
    | ms => exact PySem.W.exm_ref bM dM tM mE2
    | bp => exact PySem.W.exm_ref bM dM tM mE3
    | bf _ => exact PySem.W.exm_ref bM dM tM mE4)
  have h_check_many := df_check_many Y ⟨_, _, F2, PySem.W.mg_of X G a2⟩ run_check_many
  have h_members := df_members Y ⟨_, _, F3, PySem.W.mg_of X G a3⟩ run_members
  have h__law_same := df__law_same Y ⟨_, _, F4, PySem.W.mg_of X G a4⟩ run__law_same
  have h__law_stream := df__law_stream Y ⟨_, _, F5, PySem.W.mg_of X G a5⟩ run__law_stream
  have h__law_low := df__law_low Y ⟨_, _, F6, PySem.W.mg_of X G a6⟩ run__law_low
  have h__law_weight := df__law_weight Y ⟨_, _, F7, PySem.W.mg_of X G a7⟩ run__law_weight
  have h__law_stepped := df__law_stepped Y ⟨_, _, F8, PySem.W.mg_of X G a8⟩ run__law_stepped
  have h__law_nearly := df__law_nearly Y ⟨_, _, F9, PySem.W.mg_of X G a9⟩ run__law_nearly
  have h_check_set := df_check_set Y h_check_many ⟨_, _, F10, PySem.W.mg_of X G a10⟩ run_check_set
  have h_check_weights := df_check_weights Y h_check_many ⟨_, _, F11, PySem.W.mg_of X G a11⟩ run_check_weights
  have h_sum_of := df_sum_of Y h_members ⟨_, _, F12, PySem.W.mg_of X G a12⟩ run_sum_of
  have h_check_ranks := df_check_ranks Y h_check_many ⟨_, _, F13, PySem.W.mg_of X G a13⟩ run_check_ranks
  have h_least_of := df_least_of Y h_members ⟨_, _, F14, PySem.W.mg_of X G a14⟩ run_least_of
  have h__law_lowest := df__law_lowest Y h__law_low ⟨_, _, F15, PySem.W.mg_of X G a15⟩ run__law_lowest
  have h__law_drawn_ranks := df__law_drawn_ranks Y h__law_next ⟨_, _, F16, PySem.W.mg_of X G a16⟩ run__law_drawn_ranks
  have h__law_drawn_set := df__law_drawn_set Y h__law_next ⟨_, _, F17, PySem.W.mg_of X G a17⟩ run__law_drawn_set
  have h__law_drawn_weights := df__law_drawn_weights Y h__law_next ⟨_, _, F18, PySem.W.mg_of X G a18⟩ run__law_drawn_weights
  have h__law_accepted := df__law_accepted Y h__law_weight ⟨_, _, F19, PySem.W.mg_of X G a19⟩ run__law_accepted
  have h_accepts := df_accepts Y h_check_weights h_check_set h_sum_of ⟨_, _, F20, PySem.W.mg_of X G a20⟩ run_accepts
  have h_has_big_steps := df_has_big_steps Y h_check_weights ⟨_, _, F21, PySem.W.mg_of X G a21⟩ run_has_big_steps
  have h_closes_under := df_closes_under Y h_sum_of h_members ⟨_, _, F22, PySem.W.mg_of X G a22⟩ run_closes_under
  have h_parting_sets := df_parting_sets Y h_check_weights h_sum_of ⟨_, _, F23, PySem.W.mg_of X G a23⟩ run_parting_sets
  have h_stepped_weights := df_stepped_weights Y h_check_ranks ⟨_, _, F24, PySem.W.mg_of X G a24⟩ run_stepped_weights
  have h_heaviest := df_heaviest Y h_check_weights h_check_set h_members h_sum_of ⟨_, _, F25, PySem.W.mg_of X G a25⟩ run_heaviest
  have h_same_as_ranks := df_same_as_ranks Y h_check_weights h_check_ranks h_check_many h_least_of h_sum_of ⟨_, _, F26, PySem.W.mg_of X G a26⟩ run_same_as_ranks
  have h__law_parts := df__law_parts Y h__law_accepted ⟨_, _, F27, PySem.W.mg_of X G a27⟩ run__law_parts
  have h__law_alike := df__law_alike Y h__law_lowest h__law_weight ⟨_, _, F28, PySem.W.mg_of X G a28⟩ run__law_alike
  have h_closes := df_closes Y h_check_weights h_sum_of h_closes_under ⟨_, _, F29, PySem.W.mg_of X G a29⟩ run_closes
  have h_stepped_ranks := df_stepped_ranks Y h_has_big_steps ⟨_, _, F30, PySem.W.mg_of X G a30⟩ run_stepped_ranks
  have h__law_told := df__law_told Y Y2 h_has_big_steps h_closes h_parting_sets h_stepped_ranks h_accepts h_heaviest h_same_as_ranks h_stepped_weights ⟨_, _, F31, PySem.W.mg_of X G a31⟩ run__law_told
  have h__law_fits := df__law_fits Y h__law_drawn_weights h__law_parts h__law_nearly h__law_stepped h__law_alike h__law_told h__law_same h__law_accepted h__law_drawn_set h__law_weight h__law_drawn_ranks ⟨_, _, F32, PySem.W.mg_of X G a32⟩ run__law_fits
  have h__law_from_ranks := df__law_from_ranks Y h__law_next h__law_told h__law_same h__law_alike ⟨_, _, F33, PySem.W.mg_of X G a33⟩ run__law_from_ranks
  obtain ⟨_, _, D1, _⟩ := h__law_stream
  exact law_of (k := 6) (j := 1) (st := top 50) F34 sc_law D1 (by decide) rfl (by first | exact .inl rfl | exact .inr rfl) (by first | exact .inl rfl | exact .inr rfl) rfl (by decide) (by decide) (fun S cdv A outer s H E hT on G => ss_law Y h__law_fits h__law_next h__law_from_ranks h__law_told _ S cdv A outer s H E hT on G) run_law
end BB
open PySem PySem.W PyProof.Rows
set_option maxRecDepth 100000 in
set_option maxHeartbeats 0 in
theorem PySem.Challenge.cw_beliefbend_k59_whole_big_steps_holds : PySem.Challenge.rw_beliefbend_k59_whole_big_steps.Holds := by
  w_on; o_law; k_head; (case hw => w_witness2)
  k_fill
  refine BB.walk_G (l := PySem.Challenge.rw_beliefbend_k59_whole_big_steps) (k := 7) (n := 63) (x := "script") rfl (by decide) rfl ⟨rfl, by decide, by decide⟩ (fun w h Y => PySem.W.kIn_of Y) ?F
  case F =>
    intro w mg fa h KX G hmg
    refine' BB.all_mk KX G hmg ?a0 ?l0 ?c0 ?k0 ?a1 ?l1 ?c1 ?k1 ?a2 ?l2 ?c2 ?k2 ?a3 ?l3 ?c3 ?k3 ?a4 ?l4 ?c4 ?k4 ?a5 ?l5 ?c5 ?k5 ?a6 ?l6 ?c6 ?k6 ?a7 ?l7 ?c7 ?k7 ?a8 ?l8 ?c8 ?k8 ?a9 ?l9 ?c9 ?k9 ?a10 ?l10 ?c10 ?k10 ?a11 ?l11 ?c11 ?k11 ?a12 ?l12 ?c12 ?k12 ?a13 ?l13 ?c13 ?k13 ?a14 ?l14 ?c14 ?k14 ?a15 ?l15 ?c15 ?k15 ?a16 ?l16 ?c16 ?k16 ?a17 ?l17 ?c17 ?k17 ?a18 ?l18 ?c18 ?k18 ?a19 ?l19 ?c19 ?k19 ?a20 ?l20 ?c20 ?k20 ?a21 ?l21 ?c21 ?k21 ?a22 ?l22 ?c22 ?k22 ?a23 ?l23 ?c23 ?k23 ?a24 ?l24 ?c24 ?k24 ?a25 ?l25 ?c25 ?k25 ?a26 ?l26 ?c26 ?k26 ?a27 ?l27 ?c27 ?k27 ?a28 ?l28 ?c28 ?k28 ?a29 ?l29 ?c29 ?k29 ?a30 ?l30 ?c30 ?k30 ?a31 ?l31 ?c31 ?k31 ?a32 ?l32 ?c32 ?k32 ?a33 ?l33 ?c33 ?k33 ?a34 ?l34 ?c34 ?k34 ?z_abs ?z_all ?z_any ?z_enumerate ?z_int ?z_isinstance ?z_len ?z_list ?z_max ?z_min ?z_range ?z_repr ?z_set ?z_sorted ?z_str ?z_sum ?z_tuple ?z_zip ?u_MAX_RANK ?u_MAX_STEPPED ?u_MAX_WEIGHT ?u_MAX_WORLDS ?aM ?bM ?dM ?tM ?aE0 ?xE0 ?kE0 ?bE0 ?tE0 ?mE0 ?gE0 ?hE0 ?dE0 ?cE0 ?oE0 ?r0 ?s01 ?s02 ?s03 ?s04 ?aE1 ?xE1 ?kE1 ?bE1 ?tE1 ?mE1 ?gE1 ?hE1 ?dE1 ?cE1 ?oE1 ?r1 ?s10 ?s12 ?s13 ?s14 ?aE2 ?xE2 ?kE2 ?bE2 ?tE2 ?mE2 ?gE2 ?hE2 ?dE2 ?cE2 ?oE2 ?r2 ?s20 ?s21 ?s23 ?s24 ?aE3 ?xE3 ?kE3 ?bE3 ?tE3 ?mE3 ?gE3 ?hE3 ?dE3 ?cE3 ?oE3 ?r3 ?s30 ?s31 ?s32 ?s34 ?aE4 ?bE4 ?tE4 ?mE4 ?gE4 ?hE4 ?dE4 ?cE4 ?oE4 ?r4 ?s40 ?s41 ?s42 ?s43 ?nE ?vE
    (case a0 => k_is)
    (case a1 => k_is)
    (case a2 => k_is)
    (case a3 => k_is)
    (case a4 => k_is)
    (case a5 => k_is)
    (case a6 => k_is)
    (case a7 => k_is)
    (case a8 => k_is)
    (case a9 => k_is)
    (case a10 => k_is)
    (case a11 => k_is)
    (case a12 => k_is)
    (case a13 => k_is)
    (case a14 => k_is)
    (case a15 => k_is)
    (case a16 => k_is)
    (case a17 => k_is)
    (case a18 => k_is)
    (case a19 => k_is)
    (case a20 => k_is)
    (case a21 => k_is)
    (case a22 => k_is)
    (case a23 => k_is)
    (case a24 => k_is)
    (case a25 => k_is)
    (case a26 => k_is)
    (case a27 => k_is)
    (case a28 => k_is)
    (case a29 => k_is)
    (case a30 => k_is)
    (case a31 => k_is)
    (case a32 => k_is)
    (case a33 => k_is)
    (case a34 => k_is)
    (case aM => k_is)
    (case aE0 => k_is)
    (case aE1 => k_is)
    (case aE2 => k_is)
    (case aE3 => k_is)
    (case aE4 => k_is)
    (case l0 => k_is)
    (case c0 => k_is)
    (case k0 => k_is)
    (case l1 => k_is)
    (case c1 => k_is)
    (case k1 => k_is)
    (case l2 => k_is)
    (case c2 => k_is)
    (case k2 => k_is)
    (case l3 => k_is)
    (case c3 => k_is)
    (case k3 => k_is)
    (case l4 => k_is)
    (case c4 => k_is)
    (case k4 => k_is)
    (case l5 => k_is)
    (case c5 => k_is)
    (case k5 => k_is)
    (case l6 => k_is)
    (case c6 => k_is)
    (case k6 => k_is)
    (case l7 => k_is)
    (case c7 => k_is)
    (case k7 => k_is)
    (case l8 => k_is)
    (case c8 => k_is)
    (case k8 => k_is)
    (case l9 => k_is)
    (case c9 => k_is)
    (case k9 => k_is)
    (case l10 => k_is)
    (case c10 => k_is)
    (case k10 => k_is)
    (case l11 => k_is)
    (case c11 => k_is)
    (case k11 => k_is)
    (case l12 => k_is)
    (case c12 => k_is)
    (case k12 => k_is)
    (case l13 => k_is)
    (case c13 => k_is)
    (case k13 => k_is)
    (case l14 => k_is)
    (case c14 => k_is)
    (case k14 => k_is)
    (case l15 => k_is)
    (case c15 => k_is)
    (case k15 => k_is)
    (case l16 => k_is)
    (case c16 => k_is)
    (case k16 => k_is)
    (case l17 => k_is)
    (case c17 => k_is)
    (case k17 => k_is)
    (case l18 => k_is)
    (case c18 => k_is)
    (case k18 => k_is)
    (case l19 => k_is)
    (case c19 => k_is)
    (case k19 => k_is)
    (case l20 => k_is)
    (case c20 => k_is)
    (case k20 => k_is)
    (case l21 => k_is)
    (case c21 => k_is)
    (case k21 => k_is)
    (case l22 => k_is)
    (case c22 => k_is)
    (case k22 => k_is)
    (case l23 => k_is)
    (case c23 => k_is)
    (case k23 => k_is)
    (case l24 => k_is)
    (case c24 => k_is)
    (case k24 => k_is)
    (case l25 => k_is)
    (case c25 => k_is)
    (case k25 => k_is)
    (case l26 => k_is)
    (case c26 => k_is)
    (case k26 => k_is)
    (case l27 => k_is)
    (case c27 => k_is)
    (case k27 => k_is)
    (case l28 => k_is)
    (case c28 => k_is)
    (case k28 => k_is)
    (case l29 => k_is)
    (case c29 => k_is)
    (case k29 => k_is)
    (case l30 => k_is)
    (case c30 => k_is)
    (case k30 => k_is)
    (case l31 => k_is)
    (case c31 => k_is)
    (case k31 => k_is)
    (case l32 => k_is)
    (case c32 => k_is)
    (case k32 => k_is)
    (case l33 => k_is)
    (case c33 => k_is)
    (case k33 => k_is)
    (case l34 => k_is)
    (case c34 => k_is)
    (case k34 => k_is)
    (case z_abs => k_is)
    (case z_all => k_is)
    (case z_any => k_is)
    (case z_enumerate => k_is)
    (case z_int => k_is)
    (case z_isinstance => k_is)
    (case z_len => k_is)
    (case z_list => k_is)
    (case z_max => k_is)
    (case z_min => k_is)
    (case z_range => k_is)
    (case z_repr => k_is)
    (case z_set => k_is)
    (case z_sorted => k_is)
    (case z_str => k_is)
    (case z_sum => k_is)
    (case z_tuple => k_is)
    (case z_zip => k_is)
    (case u_MAX_RANK => k_is)
    (case u_MAX_STEPPED => k_is)
    (case u_MAX_WEIGHT => k_is)
    (case u_MAX_WORLDS => k_is)
    (case bM => k_is)
    (case dM => k_is)
    (case tM => k_is)
    (case xE0 => k_exc)
    (case kE0 => k_is)
    (case bE0 => k_is)
    (case tE0 => k_is)
    (case mE0 => k_is)
    (case gE0 => k_is)
    (case hE0 => k_is)
    (case dE0 => k_is)
    (case cE0 => k_is)
    (case oE0 => k_is)
    (case r0 => first | rfl | k_is)
    (case s01 => k_is)
    (case s02 => k_is)
    (case s03 => k_is)
    (case s04 => k_is)
    (case xE1 => k_exc)
    (case kE1 => k_is)
    (case bE1 => k_is)
    (case tE1 => k_is)
    (case mE1 => k_is)
    (case gE1 => k_is)
    (case hE1 => k_is)
    (case dE1 => k_is)
    (case cE1 => k_is)
    (case oE1 => k_is)
    (case r1 => first | rfl | k_is)
    (case s10 => k_is)
    (case s12 => k_is)
    (case s13 => k_is)
    (case s14 => k_is)
    (case xE2 => k_exc)
    (case kE2 => k_is)
    (case bE2 => k_is)
    (case tE2 => k_is)
    (case mE2 => k_is)
    (case gE2 => k_is)
    (case hE2 => k_is)
    (case dE2 => k_is)
    (case cE2 => k_is)
    (case oE2 => k_is)
    (case r2 => first | rfl | k_is)
    (case s20 => k_is)
    (case s21 => k_is)
    (case s23 => k_is)
    (case s24 => k_is)
    (case xE3 => k_exc)
    (case kE3 => k_is)
    (case bE3 => k_is)
    (case tE3 => k_is)
    (case mE3 => k_is)
    (case gE3 => k_is)
    (case hE3 => k_is)
    (case dE3 => k_is)
    (case cE3 => k_is)
    (case oE3 => k_is)
    (case r3 => first | rfl | k_is)
    (case s30 => k_is)
    (case s31 => k_is)
    (case s32 => k_is)
    (case s34 => k_is)
    (case bE4 => k_is)
    (case tE4 => k_is)
    (case mE4 => k_is)
    (case gE4 => k_is)
    (case hE4 => k_is)
    (case dE4 => k_is)
    (case cE4 => k_is)
    (case oE4 => k_is)
    (case r4 => first | rfl | k_is)
    (case s40 => k_is)
    (case s41 => k_is)
    (case s42 => k_is)
    (case s43 => k_is)
    (case nE => k_is)
    (case vE => k_is)
#print axioms PySem.Challenge.cw_beliefbend_k59_whole_big_steps_holds
