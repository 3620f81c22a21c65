import PyProof.Rows.All
import Wide.All
import OpenK.AllK
import Wide.FinOn
import HandS.ForMost
import HandS.ForExc
import HandS.TupAny
import HandS.Deep
import HandS.IsInst
import HandS.Conv
import HandS.RaiseMore
import HandS.StrMore
import HandS.Style
import HandS.AnyAll
import HandS.RevRange
import HandS.DictComp
import PyProof.CollectIter
import HandS.Set
import HandS.SetFor
import HandS.More
import HandS.Strs
import HandS.ListItems
import HandS.DictTup
import HandS.SortOrd
import PyProof.ZipIter
import HandS.Zip0
import KE.GoesEnumKw
import PyProof.Rows.IntBool
import PyProof.NeKinds
import PySem.Challenge.RW_leftlying_k11_ifs_and_tests
set_option Elab.async false
set_option linter.all false
set_option maxRecDepth 100000
set_option maxHeartbeats 4000000
/-! DLa: a plain machine over data (values, a ledger of things that change) above the hand layer. -/
namespace DL
open PySem PySem.Spec PyProof.Rows L2

/-- a value of the plain machine: a datum, or the k-th thing of the ledger -/
inductive E where
  | dat (d : PyData)
  | loc (k : Nat)
  /-- the script -/
  | scr (ns : List Int)
/-- a thing that may change -/
inductive OD where
  | lst (xs : List E)
  | dic (kvs : List (Key × E))
  | ins (C : Addr) (fs : List (Str × E))
  | gone
abbrev Gm := List (Option E)
abbrev Mm := List OD

def keyD : Key → PyData
  | .inl i => .int i
  | .inr x => .str x

mutual
inductive Dv (K : PySem.W.Frag) (F : Hp) : V → PyData → Prop
  | non : Dv K F .non .none
  | bl (b : Bool) : Dv K F (.bl b) (.bool b)
  | int (i : Int) : Dv K F (.int i) (.int i)
  | str (x : Str) : Dv K F (.str x) (.str x)
  | lst {a : Addr} {xs : List V} {ds : List PyData} : F a = some (.lst xs) → DvAll K F xs ds → Dv K F (.ref a) (.list ds)
  | tup {a : Addr} {xs : List V} {ds : List PyData} : SqT K F a xs → DvAll K F xs ds → Dv K F (.ref a) (.tuple ds)
  | dic {a : Addr} {kvs : List (Key × V)} {ds : List (PyData × PyData)} : F a = some (.dK kvs) → DvKv K F kvs ds → Dv K F (.ref a) (.dict ds)
inductive DvAll (K : PySem.W.Frag) (F : Hp) : List V → List PyData → Prop
  | nil : DvAll K F [] []
  | cons {v : V} {vs : List V} {d : PyData} {ds : List PyData} : Dv K F v d → DvAll K F vs ds → DvAll K F (v :: vs) (d :: ds)
inductive DvKv (K : PySem.W.Frag) (F : Hp) : List (Key × V) → List (PyData × PyData) → Prop
  | nil : DvKv K F [] []
  | cons {k : Key} {v : V} {kvs : List (Key × V)} {d : PyData} {ds : List (PyData × PyData)} : Dv K F v d → DvKv K F kvs ds → DvKv K F ((k, v) :: kvs) ((keyD k, d) :: ds)
end

def Sub (F F' : Hp) : Prop := ∀ a o, F a = some o → F' a = some o
theorem Sub.refl (F : Hp) : Sub F F := fun _ _ h => h
theorem Sub.trans {F F1 F2 : Hp} (a : Sub F F1) (b : Sub F1 F2) : Sub F F2 := fun x o h => b x o (a x o h)
theorem Sub.rd {F F' : Hp} (e : Sub F F') {a : Addr} {u : HO} (h : Rd F a u) : Rd F' a u := by
  rcases h with h | ⟨o, h⟩
  · exact Or.inl (e a _ h)
  · exact Or.inr ⟨o, e a _ h⟩
theorem Sub.sl {K : PySem.W.Frag} {F F' : Hp} (e : Sub F F') {a : Addr} {xs : List V} (h : SqL K F a xs) : SqL K F' a xs := by
  rcases h with h | h
  · exact Or.inl (e.rd h)
  · exact Or.inr h
theorem Sub.st {K : PySem.W.Frag} {F F' : Hp} (e : Sub F F') {a : Addr} {xs : List V} (h : SqT K F a xs) : SqT K F' a xs := by
  rcases h with h | h
  · exact Or.inl (e.rd h)
  · exact Or.inr h
theorem Sub.new {F : Hp} {p : Addr} {o : HO} (h : F p = none) : Sub F (upd F p o) := fun a u q => by
  rw [upd_ne (ne_of_none q h)]
  exact q

mutual
theorem Dv.mono {K : PySem.W.Frag} {F F' : Hp} (e : Sub F F') : ∀ {v : V} {d : PyData}, Dv K F v d → Dv K F' v d
  | _, _, .non => .non
  | _, _, .bl b => .bl b
  | _, _, .int i => .int i
  | _, _, .str x => .str x
  | _, _, .lst h t => .lst (e _ _ h) (DvAll.mono e t)
  | _, _, .tup h t => .tup (e.st h) (DvAll.mono e t)
  | _, _, .dic h t => .dic (e _ _ h) (DvKv.mono e t)
theorem DvAll.mono {K : PySem.W.Frag} {F F' : Hp} (e : Sub F F') : ∀ {vs : List V} {ds : List PyData}, DvAll K F vs ds → DvAll K F' vs ds
  | _, _, .nil => .nil
  | _, _, .cons h t => .cons (Dv.mono e h) (DvAll.mono e t)
theorem DvKv.mono {K : PySem.W.Frag} {F F' : Hp} (e : Sub F F') : ∀ {vs : List (Key × V)} {ds : List (PyData × PyData)}, DvKv K F vs ds → DvKv K F' vs ds
  | _, _, .nil => .nil
  | _, _, .cons h t => .cons (Dv.mono e h) (DvKv.mono e t)
end

/-- the world at the entry: the heap, what may change of it, what is known for good -/
structure Wd where
  H0 : Hp
  A0 : List Addr
  F0 : Hp
/-- what is known for good, the ledger's addresses -/
structure Sd where
  F : Hp
  A : List Addr
structure Le (S S' : Sd) : Prop where
  f : Sub S.F S'.F
  a : S.A <+: S'.A
theorem Le.refl (S : Sd) : Le S S := ⟨Sub.refl _, List.prefix_refl _⟩
theorem Le.trans {S S1 S2 : Sd} (a : Le S S1) (b : Le S1 S2) : Le S S2 := ⟨a.f.trans b.f, a.a.trans b.a⟩
theorem pre_get {l l' : List Addr} (h : l <+: l') {k : Nat} {p : Addr} (e : l[k]? = some p) : l'[k]? = some p := by
  obtain ⟨t, rfl⟩ := h
  have hk : k < l.length := by
    obtain ⟨h, _⟩ := List.getElem?_eq_some_iff.mp e
    exact h
  rw [List.getElem?_append_left hk]
  exact e

def EvE (K : PySem.W.Frag) (S : Sd) (v : V) : E → Prop
  | .dat d => Dv K S.F v d
  | .loc k => ∃ p, S.A[k]? = some p ∧ v = .ref p
  | .scr ns => ∃ a, v = .ref a ∧ SqL K S.F a (ns.map V.int)
theorem EvE.mono {K : PySem.W.Frag} {S S' : Sd} (l : Le S S') : ∀ {v : V} {e : E}, EvE K S v e → EvE K S' v e
  | _, .dat _, h => Dv.mono l.f h
  | _, .loc _, ⟨p, h, e⟩ => ⟨p, pre_get l.a h, e⟩
  | _, .scr _, ⟨a, e, h⟩ => ⟨a, e, l.f.sl h⟩
abbrev EvEs (K : PySem.W.Frag) (S : Sd) : List V → List E → Prop := Paired (EvE K S)
theorem EvEs.mono {K : PySem.W.Frag} {S S' : Sd} (l : Le S S') {vs : List V} {es : List E} (h : EvEs K S vs es) : EvEs K S' vs es := Paired.mapP h fun _ _ q => EvE.mono l q
abbrev EvKv (K : PySem.W.Frag) (S : Sd) : List (Key × V) → List (Key × E) → Prop := Paired fun a b => a.1 = b.1 ∧ EvE K S a.2 b.2
abbrev EvFs (K : PySem.W.Frag) (S : Sd) : List (Str × V) → List (Str × E) → Prop := Paired fun a b => a.1 = b.1 ∧ EvE K S a.2 b.2
def OkO (K : PySem.W.Frag) (S : Sd) (H : Hp) (p : Addr) : OD → Prop
  | .lst xs => ∃ vs, H p = some (.lst vs) ∧ EvEs K S vs xs
  | .dic kvs => ∃ ws, H p = some (.dK ws) ∧ EvKv K S ws kvs
  | .ins C fs => ∃ dx ws, H p = some (.ins C dx ws) ∧ S.F dx = some (.own p) ∧ EvFs K S ws fs
  | .gone => True
theorem OkO.mono {K : PySem.W.Frag} {S S' : Sd} (l : Le S S') {H H' : Hp} {p : Addr} (e : H' p = H p) : ∀ {o : OD}, OkO K S H p o → OkO K S' H' p o
  | .lst _, ⟨vs, h, q⟩ => ⟨vs, e.trans h, EvEs.mono l q⟩
  | .dic _, ⟨ws, h, q⟩ => ⟨ws, e.trans h, Paired.mapP q fun _ _ z => ⟨z.1, EvE.mono l z.2⟩⟩
  | .ins _ _, ⟨dx, ws, h, f, q⟩ => ⟨dx, ws, e.trans h, l.f _ _ f, Paired.mapP q fun _ _ z => ⟨z.1, EvE.mono l z.2⟩⟩
  | .gone, _ => trivial

structure Rep (K : PySem.W.Frag) (W : Wd) (S : Sd) (m : Mm) (H : Hp) : Prop where
  len : S.A.length = m.length
  nd : S.A.Nodup
  sub : Sub S.F H
  off : ∀ (k : Nat) (p : Addr) (o : OD), S.A[k]? = some p → m[k]? = some o → o ≠ .gone → S.F p = none
  live : ∀ p ∈ S.A, H p ≠ none
  ok : ∀ (k : Nat) (p : Addr) (o : OD), S.A[k]? = some p → m[k]? = some o → OkO K S H p o
  kept : ∀ a o, W.H0 a = some o → a ∉ W.A0 → H a = some o
  mine : ∀ p ∈ S.A, p ∈ W.A0 ∨ W.H0 p = none
  fnew : ∀ a o, S.F a = some o → W.F0 a = some o ∨ W.H0 a = none ∨ a ∈ W.A0
  pre : W.A0 <+: S.A

section
variable {K : PySem.W.Frag} {W : Wd} {S S' : Sd} {m m' : Mm} {H H' : Hp} {p : Addr} {o : HO}
theorem Rep.not_mem (R : Rep K W S m H) (h : H p = none) : p ∉ S.A := fun z => R.live p z h
theorem Rep.fresh0 (R : Rep K W S m H) (h : H p = none) : W.H0 p = none := by
  cases e : W.H0 p with
  | none => rfl
  | some o =>
    by_cases z : p ∈ W.A0
    · exact absurd h (R.live p (R.pre.subset z))
    · rw [R.kept p o e z] at h
      cases h
theorem Rep.freshF (R : Rep K W S m H) (h : H p = none) : S.F p = none := by
  cases e : S.F p with
  | none => rfl
  | some o =>
    rw [R.sub p o e] at h
    cases h
/-- something new that will not change -/
theorem Rep.frz (R : Rep K W S m H) (h : H p = none) : Rep K W ⟨upd S.F p o, S.A⟩ m (upd H p o) ∧ Le S ⟨upd S.F p o, S.A⟩ := by
  have l : Le S ⟨upd S.F p o, S.A⟩ := ⟨Sub.new (R.freshF h), List.prefix_refl _⟩
  have np := R.not_mem h
  have ne : ∀ q ∈ S.A, q ≠ p := fun q hq e => np (e ▸ hq)
  refine ⟨⟨R.len, R.nd, fun a u e => ?_, fun k q d hk hm hd => ?_, fun q hq => ?_, fun k q d hk hm => ?_, fun a u e na => ?_, R.mine, fun a u e => ?_, R.pre⟩, l⟩
  · have e' : upd S.F p o a = some u := e
    by_cases hb : a = p
    · subst hb
      rw [upd_same] at e' ⊢
      exact e'
    · rw [upd_ne hb] at e' ⊢
      exact R.sub a u e'
  · show upd S.F p o q = none
    rw [upd_ne (ne q (List.mem_of_getElem? hk))]
    exact R.off k q d hk hm hd
  · rw [upd_ne (ne q hq)]
    exact R.live q hq
  · exact OkO.mono l (upd_ne (ne q (List.mem_of_getElem? hk))) (R.ok k q d hk hm)
  · have q := R.kept a u e na
    rw [upd_ne (ne_of_none q h)]
    exact q
  · by_cases hb : a = p
    · subst hb
      exact Or.inr (Or.inl (R.fresh0 h))
    · have e' : upd S.F p o a = some u := e
      rw [upd_ne hb] at e'
      exact R.fnew a u e'
/-- something that the ledger does not have is changed, or is new -/
theorem Rep.aside (R : Rep K W S m H) (hp : p ∉ S.A) (hF : S.F p = none) (h0 : W.H0 p = none) : Rep K W S m (upd H p o) := by
  have ne : ∀ q ∈ S.A, q ≠ p := fun q hq e => hp (e ▸ hq)
  refine ⟨R.len, R.nd, fun a u e => ?_, R.off, fun q hq => ?_, fun k q d hk hm => ?_, fun a u e na => ?_, R.mine, R.fnew, R.pre⟩
  · rw [upd_ne (ne_of_none e hF)]
    exact R.sub a u e
  · rw [upd_ne (ne q hq)]
    exact R.live q hq
  · exact OkO.mono (Le.refl _) (upd_ne (ne q (List.mem_of_getElem? hk))) (R.ok k q d hk hm)
  · rw [upd_ne (ne_of_none e h0)]
    exact R.kept a u e na
/-- what stands aside is known for good from now on -/
theorem Rep.known (R : Rep K W S m H) (hp : p ∉ S.A) (hF : S.F p = none) (h0 : W.H0 p = none) (hH : H p = some o) : Rep K W ⟨upd S.F p o, S.A⟩ m H ∧ Le S ⟨upd S.F p o, S.A⟩ := by
  have l : Le S ⟨upd S.F p o, S.A⟩ := ⟨Sub.new hF, List.prefix_refl _⟩
  have ne : ∀ q ∈ S.A, q ≠ p := fun q hq e => hp (e ▸ hq)
  refine ⟨⟨R.len, R.nd, fun a u e => ?_, fun k q d hk hm hd => ?_, R.live, fun k q d hk hm => OkO.mono l rfl (R.ok k q d hk hm), R.kept, R.mine, fun a u e => ?_, R.pre⟩, l⟩
  · by_cases hb : a = p
    · subst hb
      have e' : upd S.F a o a = some u := e
      rw [upd_same] at e'
      cases e'
      exact hH
    · have e' : upd S.F p o a = some u := e
      rw [upd_ne hb] at e'
      exact R.sub a u e'
  · show upd S.F p o q = none
    rw [upd_ne (ne q (List.mem_of_getElem? hk))]
    exact R.off k q d hk hm hd
  · by_cases hb : a = p
    · subst hb
      exact Or.inr (Or.inl h0)
    · have e' : upd S.F p o a = some u := e
      rw [upd_ne hb] at e'
      exact R.fnew a u e'
/-- what stands aside goes into the ledger -/
theorem Rep.enlist {d : OD} (R : Rep K W S m H) (hp : p ∉ S.A) (hF : S.F p = none) (h0 : W.H0 p = none) (hH : H p ≠ none) (hd : OkO K S H p d) :
    Rep K W ⟨S.F, S.A ++ [p]⟩ (m ++ [d]) H ∧ Le S ⟨S.F, S.A ++ [p]⟩ := by
  have l : Le S ⟨S.F, S.A ++ [p]⟩ := ⟨Sub.refl _, List.prefix_append _ _⟩
  have mem : ∀ q, q ∈ S.A ++ [p] → q ∈ S.A ∨ q = p := fun q hq => (List.mem_append.mp hq).imp id fun z => by simpa using z
  have at_ : ∀ (k : Nat) (q : Addr) (u : OD), (S.A ++ [p])[k]? = some q → (m ++ [d])[k]? = some u → (S.A[k]? = some q ∧ m[k]? = some u) ∨ (q = p ∧ u = d) := by
    intro k q u hk hm
    by_cases hkl : k < S.A.length
    · rw [List.getElem?_append_left hkl] at hk
      rw [List.getElem?_append_left (by rw [← R.len]; exact hkl)] at hm
      exact Or.inl ⟨hk, hm⟩
    · rw [List.getElem?_append_right (by omega)] at hk
      rw [List.getElem?_append_right (by rw [← R.len]; omega)] at hm
      have k0 : k - S.A.length = 0 := by
        cases hz : k - S.A.length with
        | zero => rfl
        | succ n =>
          rw [hz] at hk
          simp at hk
      rw [k0] at hk
      have k1 : k - m.length = 0 := by rw [← R.len]; exact k0
      rw [k1] at hm
      exact Or.inr ⟨by simpa using hk.symm, by simpa using hm.symm⟩
  refine ⟨⟨?_, ?_, R.sub, fun k q u hk hm hu => ?_, fun q hq => ?_, fun k q u hk hm => ?_, R.kept, fun q hq => ?_, R.fnew, R.pre.trans (List.prefix_append _ _)⟩, l⟩
  · show (S.A ++ [p]).length = (m ++ [d]).length
    rw [List.length_append, List.length_append, R.len]
    rfl
  · refine List.nodup_append.mpr ⟨R.nd, List.nodup_cons.mpr ⟨List.not_mem_nil, List.nodup_nil⟩, fun a ha b hb => ?_⟩
    have e : b = p := by simpa using hb
    subst e
    exact fun z => hp (z ▸ ha)
  · rcases at_ k q u hk hm with ⟨a, b⟩ | ⟨a, b⟩
    · exact R.off k q u a b hu
    · rw [a]
      exact hF
  · rcases mem q hq with z | z
    · exact R.live q z
    · rw [z]
      exact hH
  · rcases at_ k q u hk hm with ⟨a, b⟩ | ⟨a, b⟩
    · exact OkO.mono l rfl (R.ok k q u a b)
    · rw [a, b]
      exact OkO.mono l rfl hd
  · rcases mem q hq with z | z
    · exact R.mine q z
    · rw [z]
      exact Or.inr h0
/-- the k-th thing is changed -/
theorem Rep.wr {k : Nat} {d d0 : OD} (R : Rep K W S m H) (hk : S.A[k]? = some p) (h0 : m[k]? = some d0) (hn : d0 ≠ .gone) (hd : OkO K S (upd H p o) p d) : Rep K W S (m.set k d) (upd H p o) := by
  have hpA : p ∈ S.A := List.mem_of_getElem? hk
  refine ⟨by rw [List.length_set]; exact R.len, R.nd, fun a u e => ?_, fun j q u hj hm hu => ?_, fun q hq => ?_, fun j q u hj hm => ?_, fun a u e na => ?_, R.mine, R.fnew, R.pre⟩
  · have ne : a ≠ p := fun z => by
      rw [z, R.off k p d0 hk h0 hn] at e
      cases e
    rw [upd_ne ne]
    exact R.sub a u e
  · by_cases hjk : j = k
    · rw [hjk, hk] at hj
      cases hj
      exact R.off k p d0 hk h0 hn
    · rw [List.getElem?_set_ne (Ne.symm hjk)] at hm
      exact R.off j q u hj hm hu
  · by_cases hb : q = p
    · rw [hb, upd_same]
      exact fun z => nomatch z
    · rw [upd_ne hb]
      exact R.live q hq
  · by_cases hjk : j = k
    · subst hjk
      rw [hj] at hk
      cases hk
      have hjl : j < m.length := by
        rw [← R.len]
        exact (List.getElem?_eq_some_iff.mp hj).1
      rw [List.getElem?_set_self hjl] at hm
      cases hm
      exact hd
    · rw [List.getElem?_set_ne (Ne.symm hjk)] at hm
      have ne : q ≠ p := fun z => by
        subst z
        exact hjk ((List.getElem?_inj (List.getElem?_eq_some_iff.mp hj).1 R.nd).mp (hj.trans hk.symm))
      exact OkO.mono (Le.refl _) (upd_ne ne) (R.ok j q u hj hm)
  · have ne : a ≠ p := fun z => by
      subst z
      rcases R.mine a hpA with q | q
      · exact na q
      · rw [q] at e
        cases e
    rw [upd_ne ne]
    exact R.kept a u e na
/-- the k-th thing will not change any more -/
theorem Rep.still {k : Nat} {d0 : OD} (R : Rep K W S m H) (hk : S.A[k]? = some p) (h0 : m[k]? = some d0) (hn : d0 ≠ .gone) (hH : H p = some o) : Rep K W ⟨upd S.F p o, S.A⟩ (m.set k .gone) H ∧ Le S ⟨upd S.F p o, S.A⟩ := by
  have l : Le S ⟨upd S.F p o, S.A⟩ := ⟨Sub.new (R.off k p d0 hk h0 hn), List.prefix_refl _⟩
  have hpA : p ∈ S.A := List.mem_of_getElem? hk
  refine ⟨⟨by rw [List.length_set]; exact R.len, R.nd, fun a u e => ?_, fun j q u hj hm hu => ?_, R.live, fun j q u hj hm => ?_, R.kept, R.mine, fun a u e => ?_, R.pre⟩, l⟩
  · have e' : upd S.F p o a = some u := e
    by_cases hb : a = p
    · subst hb
      rw [upd_same] at e'
      cases e'
      exact hH
    · rw [upd_ne hb] at e'
      exact R.sub a u e'
  · by_cases hjk : j = k
    · have hjl : k < m.length := (List.getElem?_eq_some_iff.mp h0).1
      rw [hjk, List.getElem?_set_self hjl] at hm
      cases hm
      exact absurd rfl hu
    · rw [List.getElem?_set_ne (Ne.symm hjk)] at hm
      have hj' : S.A[j]? = some q := hj
      have ne : q ≠ p := fun z => by
        subst z
        exact hjk ((List.getElem?_inj (List.getElem?_eq_some_iff.mp hj').1 R.nd).mp (hj'.trans hk.symm))
      show upd S.F p o q = none
      rw [upd_ne ne]
      exact R.off j q u hj hm hu
  · by_cases hjk : j = k
    · have hjl : k < m.length := (List.getElem?_eq_some_iff.mp h0).1
      rw [hjk, List.getElem?_set_self hjl] at hm
      cases hm
      trivial
    · rw [List.getElem?_set_ne (Ne.symm hjk)] at hm
      exact OkO.mono l rfl (R.ok j q u hj hm)
  · have e' : upd S.F p o a = some u := e
    by_cases hb : a = p
    · subst hb
      rcases R.mine a hpA with q | q
      · exact Or.inr (Or.inr q)
      · exact Or.inr (Or.inl q)
    · rw [upd_ne hb] at e'
      exact R.fnew a u e'
/-- a new world: what stands now -/
theorem Rep.enter (R : Rep K W S m H) : Rep K ⟨H, S.A, S.F⟩ S m H :=
  ⟨R.len, R.nd, R.sub, R.off, R.live, R.ok, fun _ _ e _ => e, fun _ h => Or.inl h, fun _ _ e => Or.inl e, List.prefix_refl _⟩
/-- .. and back; G: the heap that the new world began with, H and things aside -/
theorem Rep.back {G : Hp} (R : Rep K W S m H) (hs : Sub H G) (R' : Rep K ⟨G, S.A, S.F⟩ S' m' H') : Rep K W S' m' H' := by
  refine ⟨R'.len, R'.nd, R'.sub, R'.off, R'.live, R'.ok, fun a o e na => ?_, fun q hq => ?_, fun a o e => ?_, R.pre.trans R'.pre⟩
  · refine R'.kept a o (hs a o (R.kept a o e na)) fun z => ?_
    rcases R.mine a z with q | q
    · exact na q
    · rw [q] at e
      cases e
  · rcases R'.mine q hq with z | z
    · exact R.mine q z
    · have z' : G q = none := z
      refine Or.inr (R.fresh0 ?_)
      cases e : H q with
      | none => rfl
      | some u =>
        rw [hs q u e] at z'
        cases z'
  · rcases R'.fnew a o e with z | z | z
    · exact R.fnew a o z
    · have z' : G a = none := z
      refine Or.inr (Or.inl (R.fresh0 ?_))
      cases e : H a with
      | none => rfl
      | some u =>
        rw [hs a u e] at z'
        cases z'
    · rcases R.mine a z with q | q
      · exact Or.inr (Or.inr q)
      · exact Or.inr (Or.inl q)
end

/-! ### slots -/
structure Sl (K : PySem.W.Frag) (S : Sd) (σ : L2.St) (g : Gm) : Prop where
  len : g.length = σ.length
  at_ : ∀ (i : Nat) (e : E), g[i]? = some (some e) → ∃ v, σ[i]? = some (some v) ∧ EvE K S v e
section
variable {K : PySem.W.Frag} {S S' : Sd} {σ : L2.St} {g : Gm}
theorem Sl.mono (l : Le S S') (h : Sl K S σ g) : Sl K S' σ g := ⟨h.len, fun i e q => let ⟨v, a, b⟩ := h.at_ i e q; ⟨v, a, EvE.mono l b⟩⟩
theorem Sl.set (h : Sl K S σ g) {i : Nat} {v : V} {e : E} (r : EvE K S v e) : Sl K S (σ.set i (some v)) (g.set i (some e)) := by
  refine ⟨by rw [List.length_set, List.length_set]; exact h.len, fun j e' q => ?_⟩
  by_cases hj : i = j
  · subst hj
    have hi : i < g.length := by
      have := (List.getElem?_eq_some_iff.mp q).1
      simpa using this
    rw [List.getElem?_set_self hi] at q
    cases q
    exact ⟨v, List.getElem?_set_self (by rw [← h.len]; exact hi), r⟩
  · rw [List.getElem?_set_ne hj] at q
    rw [List.getElem?_set_ne hj]
    exact h.at_ j e' q
theorem Sl.unset (h : Sl K S σ g) (i : Nat) : Sl K S (σ.set i none) (g.set i none) := by
  refine ⟨by rw [List.length_set, List.length_set]; exact h.len, fun j e' q => ?_⟩
  by_cases hj : i = j
  · subst hj
    have hi : i < g.length := by
      have := (List.getElem?_eq_some_iff.mp q).1
      simpa using this
    rw [List.getElem?_set_self hi] at q
    cases q
  · rw [List.getElem?_set_ne hj] at q
    rw [List.getElem?_set_ne hj]
    exact h.at_ j e' q
/-- what is known of a slot may be forgotten -/
theorem Sl.less {g' : Gm} (h : Sl K S σ g) (hl : g'.length = g.length) (hs : ∀ (i : Nat) (e : E), g'[i]? = some (some e) → g[i]? = some (some e)) : Sl K S σ g' := ⟨hl.trans h.len, fun i e q => h.at_ i e (hs i e q)⟩
end

/-! ### the promise of a def, no repr being under way -/
structure FnG (P : Program) (w : World) (K : PySem.W.Frag) (mg : Str → Option Value) (base : Heap) (CX : CXT) (k : Nat) (f : Addr) (fd : FuncData) (ps : List Str) (sp : Sp) : Prop where
  len : ∀ vs H Q X, sp vs H Q X → vs.length = ps.length
  run : ∀ (A : Around) (outer : List Env) (s : Shared) (H : Hp) (args : Args) (us : List Value) (vs : List V) (Q : VK) (Xe : XK), A.guards = some [] → Room k A → Env0 P w K mg base A outer s H →
    BindsTo s fd args (ps.zip us) → Vals vs us → sp vs H Q Xe → codeAny (model P w) A (.call (.ref f) args) (CR CX outer P w H s Q Xe) s
theorem FnG.mono {P : Program} {w : World} {K : PySem.W.Frag} {mg : Str → Option Value} {base : Heap} {CX : CXT} {j k : Nat} {f : Addr} {fd : FuncData} {ps : List Str} {sp : Sp} (F : FnG P w K mg base CX j f fd ps sp) (h : j ≤ k) :
    FnG P w K mg base CX k f fd ps sp := ⟨F.len, fun A o s H a us vs Q X g hr => F.run A o s H a us vs Q X g (hr.mono h)⟩
theorem FnG.of {P : Program} {w : World} {K : PySem.W.Frag} {mg : Str → Option Value} {base : Heap} {CX : CXT} {k : Nat} {f : Addr} {fd : FuncData} {ps : List Str} {sp : Sp} (F : FnOk P w K mg base CX k f fd ps sp) :
    FnG P w K mg base CX k f fd ps sp := ⟨F.len, fun A o s H a us vs Q X _ hr => F.run A o s H a us vs Q X hr⟩

section
variable {X : Cx} {CX : CXT} {k : Nat} {f : Addr} {fd : FuncData} {ps ks : List Str} {sp : Sp} {dvs : List V} {ds : List Value} {Xe : XK} {x : Str} {p pos : Pos} {e : Expr} {es : List Expr} {kws : List Keyword} {t tk : TA}
theorem ret_of {pins : List (Addr × Obj)} {σ : L2.St} {H : Hp} {s s' : Shared} {Q : VK} {r : Result} (hx : Passes CX X Xe) (I : Inv X pins σ H s) (hq : CR CX X.stack X.prog X.w H s Q Xe r s') :
    callEnd (EP X pins σ Q) X.xe r s' := by
  match r, hq with
  | .error e, hq => exact hx pins σ H s e s' I hq
  | .ok (.ret u), hq => exact I.after hq
theorem run_fnG {pins : List (Addr × Obj)} {σ : L2.St} {H : Hp} {s : Shared} {Q : VK} {us : List Value} {vs : List V} (F : FnG X.prog X.w X.K X.mg X.base CX k f fd ps sp) (hG : X.A.guards = some []) (hr : Room k X.A) (hb : Binds X.K fd ps ds) (hd : Vals dvs ds)
    (hx : Passes CX X Xe) (I : Inv X pins σ H s) (r : Vals vs us) (h : sp (vs ++ dvs) H Q Xe) : wpAny (model X.prog X.w) X.A (call (.ref f) us) (EP X pins σ Q) X.xe s := by
  have r2 : Vals (vs ++ dvs) (us ++ ds) := r.append hd
  have hl : (us ++ ds).length = ps.length := r2.length.symm.trans (F.len _ _ _ _ h)
  have c := F.run X.A X.stack s H ⟨us, []⟩ _ _ Q Xe hG hr I.env0 (hb s us I.kIn hl) r2 h
  exact wpAny_call (codeAny_mono c fun r s' hq => ret_of hx I hq)
theorem pe_callG (F : FnG X.prog X.w X.K X.mg X.base CX k f fd ps sp) (hG : X.A.guards = some []) (hr : Room k X.A) (hm : X.mg x = some (.ref f)) (hk : PySem.W.keepIn X.K (.ref f) = true) (hb : Binds X.K fd ps ds) (hd : Vals dvs ds) (hx : Passes CX X Xe)
    (ha : PA X (e :: es) t) (hg : Gl X x := by rfl) (hdb : (x == ("__debug__" : Str)) = false := by decide)
    (he : starEach (e :: es) X.env = (false, eval e X.env) :: starEach es X.env := by rfl) (hpl : (backTo pos (starEach es X.env)).any (·.1) = false := by rfl) :
    PE X (.Call (.Name x p) (e :: es) [] pos) (tCall sp dvs Xe t) := ⟨fun pins s σ H Q I h => by
  refine wpAny_Call_Name_kw (ld_glob I hg hm ?_ hdb)
  have hargs := ha.run pos pins s σ H _ I h
  exact PySem.W.callWith_K (h₀ := X.base) I.ok.mod.kin hk (thn hargs fun us s1 ⟨vs, H1, I1, r, q⟩ => ⟨I1.kIn, run_fnG F hG hr hb hd hx I1 r q⟩) he hpl⟩
theorem pe_callG0 (F : FnG X.prog X.w X.K X.mg X.base CX k f fd ps sp) (hG : X.A.guards = some []) (hr : Room k X.A) (hm : X.mg x = some (.ref f)) (hk : PySem.W.keepIn X.K (.ref f) = true) (hb : Binds X.K fd ps ds) (hd : Vals dvs ds) (hx : Passes CX X Xe)
    (hg : Gl X x := by rfl) (hdb : (x == ("__debug__" : Str)) = false := by decide) : PE X (.Call (.Name x p) [] [] pos) (tCall sp dvs Xe tNil) := ⟨fun pins s σ H Q I h => by
  refine wpAny_Call_Name_kw (ld_glob I hg hm ?_ hdb)
  exact PySem.W.callWith_K0 I.kIn hk (run_fnG (us := []) F hG hr hb hd hx I .nil h)⟩
/-- f(k = v, ..) without positional arguments, or with some -/
theorem run_fnkG {g : List Value → List Value → List Value} {gV : List V → List V → List V} {pins : List (Addr × Obj)} {σ : L2.St} {H : Hp} {s : Shared} {Q : VK} {us ws : List Value} {vs zs : List V} (F : FnG X.prog X.w X.K X.mg X.base CX k f fd ps sp) (hG : X.A.guards = some []) (hr : Room k X.A)
    (hb : KBinds X.K fd ps ks g gV) (hx : Passes CX X Xe) (I : Inv X pins σ H s) (r : Vals vs us) (rz : Vals zs ws) (h : sp (gV vs zs) H Q Xe) : wpAny (model X.prog X.w) X.A (call (.ref f) us (ks.zip ws)) (EP X pins σ Q) X.xe s := by
  have r2 := hb.rel r rz
  have hl : (g us ws).length = ps.length := r2.length.symm.trans (F.len _ _ _ _ h)
  have c := F.run X.A X.stack s H ⟨us, ks.zip ws⟩ _ _ Q Xe hG hr I.env0 (hb.to s us ws I.kIn hl) r2 h
  exact wpAny_call (codeAny_mono c fun r s' hq => ret_of hx I hq)
theorem pe_callKG {g : List Value → List Value → List Value} {gV : List V → List V → List V} (F : FnG X.prog X.w X.K X.mg X.base CX k f fd ps sp) (hG : X.A.guards = some []) (hr : Room k X.A) (hm : X.mg x = some (.ref f)) (hk : PySem.W.keepIn X.K (.ref f) = true)
    (hb : KBinds X.K fd ps ks g gV) (hx : Passes CX X Xe) (ha : PA X (e :: es) t) (hkw : PK X kws tk) (hg : Gl X x := by rfl) (hall : (backToKw pos (keywordEach kws X.env)).all (·.1.isSome) = true := by rfl) (hks : (backToKw pos (keywordEach kws X.env)).filterMap (·.1) = ks := by rfl)
    (hdb : (x == ("__debug__" : Str)) = false := by decide) (he : starEach (e :: es) X.env = (false, eval e X.env) :: starEach es X.env := by rfl)
    (hpl : ((backTo pos (starEach (e :: es) X.env)).any (·.1) || (backToKw pos (keywordEach kws X.env)).any (·.1.isNone)) = false := by rfl) :
    PE X (.Call (.Name x p) (e :: es) kws pos) (tCallK sp gV Xe t tk) := ⟨fun pins s σ H Q I h => by
  refine wpAny_Call_Name_kw (ld_glob I hg hm ?_ hdb)
  have hargs := ha.run pos pins s σ H _ I h
  refine PySem.W.callWith_KW (h₀ := X.base) I.ok.mod.kin hk hall (thn hargs fun us s1 ⟨vs, H1, I1, r, q⟩ => thn (hkw.run pos pins s1 σ H1 _ I1 q) fun ws s2 ⟨zs, H2, I2, rz, q2⟩ => ⟨I2.kIn, ?_⟩) hpl he
  rw [hks]
  exact run_fnkG F hG hr hb hx I2 r rz q2⟩
end

/-- a def of the text, by its body's term and the term's reading -/
theorem okG {P : Program} {w : World} {K : PySem.W.Frag} {mg : Str → Option Value} {base : Heap} {CX : CXT} {x qual : Str} {st : Stmt} {f : Addr} {fd : FuncData} {N ps : List Str} {k : Nat} {sp : Sp} (F : Fun K x qual st f fd) (S : FnScope N ps (defScope st))
    (len : ∀ vs H Q Xe, sp vs H Q Xe → vs.length = ps.length)
    (hbody : ∀ (cdv : Value) (A : Around) (outer : List Env) (s : Shared) (H : Hp) (vs : List V) (Q : VK) (Xe : XK), (A.deeper (envOfC qual (defScope st) s.heap.objs.size f cdv)).guards = some [] → Room k (A.deeper (envOfC qual (defScope st) s.heap.objs.size f cdv)) → sp vs H Q Xe →
      ∃ t, PSs (cxOf CX P w K mg base N qual (defScope st) f cdv A outer s H Xe) (defBody st) t ∧ t { nx := fun _ H' => Q .non H', rt := Q } (start N vs) H) : FnG P w K mg base CX (k + 1) f fd ps sp := by
  obtain ⟨oc, od, kV, doc, pm, an, cdv, ct, osl, rfl, lk, hcd⟩ := F.ex
  refine ⟨len, fun A outer s H args us vs Q Xe hg hr e0 hb r hsp => ?_⟩
  have hl := len _ _ _ _ hsp
  have old : ∀ b o, base.get? b = some o → s.heap.get? b = some o := fun b o e => (e0.bs b o e).1
  have KX := e0.mod.kin.keeps old
  have lim := e0.mod.nolimit.keeps old
  refine codeAny_call_function hr.depth (KX _ _ lk) rfl S.co S.gen rfl (PySem.W.codeRec_of KX hcd) (hb _ _ _ _ ?_)
  refine wpAny_newFunctionEnv_cells S.kind (fun y hy => ?_) fun env he s1 x1 => ?_
  · rcases S.par y.1 (List.of_mem_zip (a := y.1) (b := y.2) hy).1 with q | q
    · exact Or.inl q
    · exact Or.inr ⟨q, PySem.W.cellsFrom_some _ _ _ (Or.inl q)⟩
  · subst he
    refine ⟨lim.keeps x1.toInCall.keep, codeAny_func ?_⟩
    obtain ⟨t, ht, hq⟩ := hbody cdv A outer s H vs Q Xe hg (hr.deeper _) hsp
    refine wpAny_mono (ht.run [] s1 (start N vs) H _ (inv_start S hr.hd e0 hl r x1) hq) (fun fl s' hs => ?_) fun e s' hs => hs
    have fin : ∀ {σ' : L2.St} {H' : Hp} {v : V} {u : Value}, Inv (cxOf CX P w K mg base N qual (defScope st) f cdv A outer s H Xe) [] σ' H' s' → RelV v u → Q v H' → CE outer P w H s Q u s' :=
      fun {_ H' v _} J rv q => ⟨v, H', J.os, J.bare, J.base, J.hok, rv, q⟩
    cases fl with
    | ret u =>
      obtain ⟨v, σ', H', J, rv, q⟩ := hs
      exact fin J rv q
    | next =>
      obtain ⟨σ', H', J, q⟩ := hs
      exact fin (v := V.non) (u := Value.none) J rfl q
    | brk =>
      obtain ⟨_, _, _, q⟩ := hs
      cases q
    | cont =>
      obtain ⟨_, _, _, q⟩ := hs
      cases q
end DL
/-! DLb: judgements of the plain machine, and its rules for names, constants, operators, tests, statements. -/
namespace DL
open PySem PySem.Spec PyProof.Rows L2

abbrev DTE := Gm → Mm → (E → Mm → Prop) → Prop
abbrev DTT := Gm → Mm → (Bool → Mm → Prop) → Prop
abbrev DTA := Gm → Mm → (List E → Mm → Prop) → Prop
structure DEnds where
  nx : Gm → Mm → Prop
  rt : E → Mm → Prop
  bk : Gm → Mm → Prop := fun _ _ => False
  ct : Gm → Mm → Prop := fun _ _ => False
abbrev DTS := DEnds → Gm → Mm → Prop
abbrev DTG := E → Gm → Mm → (Gm → Mm → Prop) → Prop
abbrev DTGs := List E → Gm → Mm → (Gm → Mm → Prop) → Prop

/-- the reading te does what t says -/
def Snd (K : PySem.W.Frag) (te : TE) (t : DTE) : Prop := ∀ (W : Wd) (S : Sd) (g : Gm) (m : Mm) (σ : L2.St) (H : Hp) (Q : E → Mm → Prop) (R : VK), Rep K W S m H → Sl K S σ g → t g m Q →
  (∀ v H' S' e m', Rep K W S' m' H' → Le S S' → EvE K S' v e → Q e m' → R v H') → te σ H R
def SndT (K : PySem.W.Frag) (te : TT) (t : DTT) : Prop := ∀ (W : Wd) (S : Sd) (g : Gm) (m : Mm) (σ : L2.St) (H : Hp) (Q : Bool → Mm → Prop) (R : Bool → Hp → Prop), Rep K W S m H → Sl K S σ g → t g m Q →
  (∀ b H' S' m', Rep K W S' m' H' → Le S S' → Q b m' → R b H') → te σ H R
def SndA (K : PySem.W.Frag) (te : TA) (t : DTA) : Prop := ∀ (W : Wd) (S : Sd) (g : Gm) (m : Mm) (σ : L2.St) (H : Hp) (Q : List E → Mm → Prop) (R : List V → Hp → Prop), Rep K W S m H → Sl K S σ g → t g m Q →
  (∀ vs H' S' es m', Rep K W S' m' H' → Le S S' → EvEs K S' vs es → Q es m' → R vs H') → te σ H R
structure EndsOk (K : PySem.W.Frag) (W : Wd) (S : Sd) (D : DEnds) (R : Ends) : Prop where
  nx : ∀ σ' H' S' g' m', Rep K W S' m' H' → Le S S' → Sl K S' σ' g' → D.nx g' m' → R.nx σ' H'
  rt : ∀ v H' S' e m', Rep K W S' m' H' → Le S S' → EvE K S' v e → D.rt e m' → R.rt v H'
  bk : ∀ σ' H' S' g' m', Rep K W S' m' H' → Le S S' → Sl K S' σ' g' → D.bk g' m' → R.bk σ' H'
  ct : ∀ σ' H' S' g' m', Rep K W S' m' H' → Le S S' → Sl K S' σ' g' → D.ct g' m' → R.ct σ' H'
theorem EndsOk.le {K : PySem.W.Frag} {W : Wd} {S S1 : Sd} {D : DEnds} {R : Ends} (h : EndsOk K W S D R) (l : Le S S1) : EndsOk K W S1 D R :=
  ⟨fun σ H S g m r q => h.nx σ H S g m r (l.trans q), fun v H S e m r q => h.rt v H S e m r (l.trans q), fun σ H S g m r q => h.bk σ H S g m r (l.trans q), fun σ H S g m r q => h.ct σ H S g m r (l.trans q)⟩
def SndS (K : PySem.W.Frag) (ts : TS) (t : DTS) : Prop := ∀ (W : Wd) (S : Sd) (g : Gm) (m : Mm) (σ : L2.St) (H : Hp) (D : DEnds) (R : Ends), Rep K W S m H → Sl K S σ g → t D g m → EndsOk K W S D R → ts R σ H
def SndG (K : PySem.W.Frag) (tg : TG) (t : DTG) : Prop := ∀ (W : Wd) (S : Sd) (g : Gm) (m : Mm) (σ : L2.St) (H : Hp) (v : V) (e : E) (Q : Gm → Mm → Prop) (R : L2.St → Hp → Prop), Rep K W S m H → Sl K S σ g → EvE K S v e → t e g m Q →
  (∀ σ' H' S' g' m', Rep K W S' m' H' → Le S S' → Sl K S' σ' g' → Q g' m' → R σ' H') → tg v σ H R
def SndGs (K : PySem.W.Frag) (tg : TGs) (t : DTGs) : Prop := ∀ (W : Wd) (S : Sd) (g : Gm) (m : Mm) (σ : L2.St) (H : Hp) (vs : List V) (es : List E) (Q : Gm → Mm → Prop) (R : L2.St → Hp → Prop), Rep K W S m H → Sl K S σ g → EvEs K S vs es → t es g m Q →
  (∀ σ' H' S' g' m', Rep K W S' m' H' → Le S S' → Sl K S' σ' g' → Q g' m' → R σ' H') → tg vs σ H R

structure DE (X : Cx) (e : Expr) (t : DTE) : Prop where
  ex : ∃ te, PE X e te ∧ Snd X.K te t
structure DT (X : Cx) (e : Expr) (t : DTT) : Prop where
  ex : ∃ te, PT X e te ∧ SndT X.K te t
structure DW (X : Cx) (e : Expr) (t : DTT) : Prop where
  ex : ∃ te, PW X e te ∧ SndT X.K te t
structure DA (X : Cx) (es : List Expr) (t : DTA) : Prop where
  ex : ∃ te, PA X es te ∧ SndA X.K te t
structure DS (X : Cx) (st : Stmt) (t : DTS) : Prop where
  ex : ∃ te, PS X st te ∧ SndS X.K te t
structure DSs (X : Cx) (st : List Stmt) (t : DTS) : Prop where
  ex : ∃ te, PSs X st te ∧ SndS X.K te t
structure DG (X : Cx) (e : Expr) (t : DTG) : Prop where
  ex : ∃ te, PG X e te ∧ SndG X.K te t
structure DGs (X : Cx) (es : List Expr) (t : DTGs) : Prop where
  ex : ∃ te, PGs X es te ∧ SndGs X.K te t

/-! ### eliminators -/
def onD : E → (PyData → Prop) → Prop
  | .dat d, Q => Q d
  | _, _ => False
def onI : PyData → (Int → Prop) → Prop
  | .int i, Q => Q i
  | _, _ => False
def onS : PyData → (Str → Prop) → Prop
  | .str i, Q => Q i
  | _, _ => False
def onB : PyData → (Bool → Prop) → Prop
  | .bool i, Q => Q i
  | _, _ => False
theorem onD_of {e : E} {Q : PyData → Prop} (h : onD e Q) : ∃ d, e = .dat d ∧ Q d := by
  cases e with
  | dat d => exact ⟨d, rfl, h⟩
  | loc k => exact h.elim
  | scr _ => exact h.elim
theorem onI_of {e : PyData} {Q : Int → Prop} (h : onI e Q) : ∃ d, e = .int d ∧ Q d := by
  cases e with
  | int d => exact ⟨d, rfl, h⟩
  | _ => exact h.elim
theorem onS_of {e : PyData} {Q : Str → Prop} (h : onS e Q) : ∃ d, e = .str d ∧ Q d := by
  cases e with
  | str d => exact ⟨d, rfl, h⟩
  | _ => exact h.elim
theorem onB_of {e : PyData} {Q : Bool → Prop} (h : onB e Q) : ∃ d, e = .bool d ∧ Q d := by
  cases e with
  | bool d => exact ⟨d, rfl, h⟩
  | _ => exact h.elim
theorem dv_int {K : PySem.W.Frag} {F : Hp} {v : V} {i : Int} (h : Dv K F v (.int i)) : v = .int i := by
  cases h
  rfl
theorem dv_str {K : PySem.W.Frag} {F : Hp} {v : V} {i : Str} (h : Dv K F v (.str i)) : v = .str i := by
  cases h
  rfl
theorem dv_bl {K : PySem.W.Frag} {F : Hp} {v : V} {i : Bool} (h : Dv K F v (.bool i)) : v = .bl i := by
  cases h
  rfl
theorem dv_non {K : PySem.W.Frag} {F : Hp} {v : V} (h : Dv K F v .none) : v = .non := by
  cases h
  rfl

/-- all are data -/
def allD : List E → (List PyData → Prop) → Prop
  | [], Q => Q []
  | .dat d :: r, Q => allD r fun ds => Q (d :: ds)
  | _ :: _, _ => False
theorem allD_of : ∀ {es : List E} {Q : List PyData → Prop}, allD es Q → ∃ ds, es = ds.map .dat ∧ Q ds
  | [], Q, h => ⟨[], rfl, h⟩
  | .dat d :: r, Q, h => by
    obtain ⟨ds, e, q⟩ := allD_of (es := r) (Q := fun ds => Q (d :: ds)) h
    exact ⟨d :: ds, by rw [e]; rfl, q⟩
  | .loc _ :: _, _, h => h.elim
  | .scr _ :: _, _, h => h.elim
theorem evs_dat {K : PySem.W.Frag} {S : Sd} : ∀ {ds : List PyData} {vs : List V}, EvEs K S vs (ds.map .dat) → DvAll K S.F vs ds
  | [], _, .nil => .nil
  | _ :: _, _, .cons h t => .cons h (evs_dat t)
theorem dat_evs {K : PySem.W.Frag} {S : Sd} : ∀ {ds : List PyData} {vs : List V}, DvAll K S.F vs ds → EvEs K S vs (ds.map .dat)
  | _, _, .nil => .nil
  | _, _, .cons h t => .cons h (dat_evs t)
theorem DvAll.length {K : PySem.W.Frag} {F : Hp} : ∀ {vs : List V} {ds : List PyData}, DvAll K F vs ds → vs.length = ds.length
  | _, _, .nil => rfl
  | _, _, .cons _ t => by rw [List.length_cons, List.length_cons, DvAll.length t]
theorem DvAll.get {K : PySem.W.Frag} {F : Hp} : ∀ {vs : List V} {ds : List PyData} {i : Nat} {v : V}, DvAll K F vs ds → vs[i]? = some v → ∃ d, ds[i]? = some d ∧ Dv K F v d
  | _, _, 0, _, .cons h _, e => by
    cases e
    exact ⟨_, rfl, h⟩
  | _, _, i + 1, _, .cons _ t, e => DvAll.get (i := i) t e
theorem DvAll.get' {K : PySem.W.Frag} {F : Hp} : ∀ {vs : List V} {ds : List PyData} {i : Nat} {d : PyData}, DvAll K F vs ds → ds[i]? = some d → ∃ v, vs[i]? = some v ∧ Dv K F v d
  | _, _, 0, _, .cons h _, e => by
    cases e
    exact ⟨_, rfl, h⟩
  | _, _, i + 1, _, .cons _ t, e => DvAll.get' (i := i) t e
theorem DvAll.append {K : PySem.W.Frag} {F : Hp} : ∀ {vs ws : List V} {ds es : List PyData}, DvAll K F vs ds → DvAll K F ws es → DvAll K F (vs ++ ws) (ds ++ es)
  | _, _, _, _, .nil, h => h
  | _, _, _, _, .cons h t, h' => .cons h (DvAll.append t h')
theorem DvAll.take {K : PySem.W.Frag} {F : Hp} : ∀ (n : Nat) {vs : List V} {ds : List PyData}, DvAll K F vs ds → DvAll K F (vs.take n) (ds.take n)
  | 0, _, _, _ => .nil
  | _ + 1, _, _, .nil => .nil
  | n + 1, _, _, .cons h t => .cons h (DvAll.take n t)
theorem DvAll.drop {K : PySem.W.Frag} {F : Hp} : ∀ (n : Nat) {vs : List V} {ds : List PyData}, DvAll K F vs ds → DvAll K F (vs.drop n) (ds.drop n)
  | 0, _, _, h => h
  | _ + 1, _, _, .nil => .nil
  | n + 1, _, _, .cons _ t => DvAll.drop n t
/-! ### names, constants -/
section
variable {X : Cx}
def dVar (i : Nat) : DTE := fun g m Q => match g[i]? with
  | some (some e) => Q e m
  | _ => False
def dC (d : PyData) : DTE := fun _ m Q => Q (.dat d) m
theorem snd_var {K : PySem.W.Frag} (i : Nat) : Snd K (tVar i) (dVar i) := by
  intro W S g m σ H Q R r s h k
  have h' : (match g[i]? with | some (some e) => Q e m | _ => False) := h
  split at h'
  · rename_i e he
    obtain ⟨v, hv, rv⟩ := s.at_ i e he
    exact ⟨v, hv, k v H S e m r (Le.refl S) rv h'⟩
  · exact h'.elim
theorem snd_c {K : PySem.W.Frag} {v : V} {d : PyData} (hv : ∀ F, Dv K F v d) : Snd K (tC v) (dC d) := fun W S g m σ H Q R r s h k => k v H S (.dat d) m r (Le.refl S) (hv S.F) h
theorem dv (i : Nat) {x : Str} {pos : Pos} (hN : X.N[i]? = some x := by rfl) (hv : Vis X.env.scope x := by first | exact Or.inl rfl | exact Or.inr (Or.inl rfl) | exact Or.inr (Or.inr rfl)) (hd : (x == ("__debug__" : Str)) = false := by decide)
    (hcd : (x == ("__classdict__" : Str)) = false := by decide) : DE X (.Name x pos) (dVar i) := ⟨_, pe_var hN hv hd hcd, snd_var i⟩
theorem d_int {i j pos} : DE X (.Constant (.int i) j pos) (dC (.int i)) := ⟨_, pe_int, snd_c fun _ => .int i⟩
theorem d_bl {b j pos} : DE X (.Constant (.bool b) j pos) (dC (.bool b)) := ⟨_, pe_bl, snd_c fun _ => .bl b⟩
theorem d_non {j pos} : DE X (.Constant .none j pos) (dC .none) := ⟨_, pe_non, snd_c fun _ => .non⟩
theorem d_str {x j pos} : DE X (.Constant (.str x) j pos) (dC (.str x)) := ⟨_, pe_str, snd_c fun _ => .str x⟩
/-- a constant of the module: an int or a text -/
theorem d_globI {x : Str} {i : Int} {t : Tok} {pos : Pos} (hm : X.mg x = some (.int i t)) (hg : Gl X x := by rfl) (hd : (x == ("__debug__" : Str)) = false := by decide) : DE X (.Name x pos) (dC (.int i)) :=
  ⟨_, pe_glob (v := .int i) hg hm ⟨t, rfl⟩ hd, snd_c fun _ => .int i⟩
theorem d_globS {x : Str} {i : Str} {t : Tok} {pos : Pos} (hm : X.mg x = some (.str i t)) (hg : Gl X x := by rfl) (hd : (x == ("__debug__" : Str)) = false := by decide) : DE X (.Name x pos) (dC (.str i)) :=
  ⟨_, pe_glob (v := .str i) hg hm ⟨t, rfl⟩ hd, snd_c fun _ => .str i⟩

/-! ### operators on data -/
/-- a list of the ledger is read as a datum -/
def asD (m : Mm) : E → (PyData → Prop) → Prop
  | .dat d, Q => Q d
  | .loc k, Q => match m[k]? with
    | some (.lst es) => allD es fun ds => Q (.list ds)
    | _ => False
  | .scr _, _ => False
def Vw (K : PySem.W.Frag) (F H : Hp) (v : V) (d : PyData) : Prop := Dv K F v d ∨ ∃ p vs ds, v = .ref p ∧ d = .list ds ∧ H p = some (.lst vs) ∧ DvAll K F vs ds
theorem asD_of {K : PySem.W.Frag} {W : Wd} {S : Sd} {m : Mm} {H : Hp} {v : V} {e : E} {Q : PyData → Prop} (h : asD m e Q) (R : Rep K W S m H) (ev : EvE K S v e) : ∃ d, Vw K S.F H v d ∧ Q d := by
  cases e with
  | dat d => exact ⟨d, Or.inl ev, h⟩
  | loc k =>
    have h' : (match m[k]? with | some (.lst es) => allD es fun ds => Q (.list ds) | _ => False) := h
    obtain ⟨p, hp, rfl⟩ := ev
    split at h'
    · rename_i es hm
      obtain ⟨ds, rfl, q⟩ := allD_of h'
      obtain ⟨vs, hH, er⟩ := R.ok k p _ hp hm
      exact ⟨.list ds, Or.inr ⟨p, vs, ds, rfl, rfl, hH, evs_dat er⟩, q⟩
    · exact h'.elim
  | scr _ => exact h.elim
theorem vw_int {K : PySem.W.Frag} {F H : Hp} {v : V} {i : Int} (h : Vw K F H v (.int i)) : v = .int i := by
  rcases h with h | ⟨_, _, _, _, e, _⟩
  · exact dv_int h
  · cases e
theorem vw_str {K : PySem.W.Frag} {F H : Hp} {v : V} {i : Str} (h : Vw K F H v (.str i)) : v = .str i := by
  rcases h with h | ⟨_, _, _, _, e, _⟩
  · exact dv_str h
  · cases e
theorem vw_bl {K : PySem.W.Frag} {F H : Hp} {v : V} {i : Bool} (h : Vw K F H v (.bool i)) : v = .bl i := by
  rcases h with h | ⟨_, _, _, _, e, _⟩
  · exact dv_bl h
  · cases e
theorem vw_non {K : PySem.W.Frag} {F H : Hp} {v : V} (h : Vw K F H v .none) : v = .non := by
  rcases h with h | ⟨_, _, _, _, e, _⟩
  · exact dv_non h
  · cases e
theorem vw_lst {K : PySem.W.Frag} {F H : Hp} {v : V} {ds : List PyData} (hs : Sub F H) (h : Vw K F H v (.list ds)) : ∃ a vs, v = .ref a ∧ H a = some (.lst vs) ∧ DvAll K F vs ds := by
  rcases h with h | ⟨p, vs, ds', rfl, e, hH, ha⟩
  · cases h with
    | lst h t => exact ⟨_, _, rfl, hs _ _ h, t⟩
  · cases e
    exact ⟨p, vs, rfl, hH, ha⟩
theorem vw_tup {K : PySem.W.Frag} {F H : Hp} {v : V} {ds : List PyData} (hs : Sub F H) (h : Vw K F H v (.tuple ds)) : ∃ a vs, v = .ref a ∧ SqT K H a vs ∧ DvAll K F vs ds := by
  rcases h with h | ⟨_, _, _, _, e, _⟩
  · cases h with
    | tup h t => exact ⟨_, _, rfl, hs.st h, t⟩
  · cases e
mutual
theorem Dv.dp {K : PySem.W.Frag} {F H : Hp} (e : Sub F H) : ∀ {v : V} {d : PyData}, Dv K F v d → d.canLay0 = true → Dp K H v d
  | _, _, .non, _ => .non
  | _, _, .bl b, _ => .bl b
  | _, _, .int i, _ => .int i
  | _, _, .str x, _ => .str x
  | _, _, .lst h t, c => .lst (Or.inl (Or.inl (e _ _ h))) (DvAll.dp e t c)
  | _, _, .tup h t, c => .tup (e.st h) (DvAll.dp e t c)
  | _, _, .dic h t, c => nomatch c
theorem DvAll.dp {K : PySem.W.Frag} {F H : Hp} (e : Sub F H) : ∀ {vs : List V} {ds : List PyData}, DvAll K F vs ds → PyData.canLayAll0 ds = true → DpAll K H vs ds
  | _, _, .nil, _ => .nil
  | _, _, .cons h t, c => .cons (Dv.dp e h (Bool.and_eq_true_iff.mp c).1) (DvAll.dp e t (Bool.and_eq_true_iff.mp c).2)
end
theorem vw_dp {K : PySem.W.Frag} {F H : Hp} (e : Sub F H) {v : V} {d : PyData} (h : Vw K F H v d) (c : d.canLay0 = true) : Dp K H v d := by
  rcases h with h | ⟨p, vs, ds, rfl, rfl, hH, ha⟩
  · exact h.dp e c
  · exact .lst (Or.inl (Or.inl hH)) (ha.dp e c)
/-- what a two-place operation makes of two data -/
abbrev F2 := PyData → PyData → (PyData → Prop) → Prop
def Op2 (K : PySem.W.Frag) (r : R2) (f : F2) : Prop := ∀ (W : Wd) (S : Sd) (m : Mm) (H : Hp) (x y : V) (a b : PyData) (Q : PyData → Prop) (R : VK), Rep K W S m H → Vw K S.F H x a → Vw K S.F H y b → f a b Q →
  (∀ v H' S' d, Rep K W S' m H' → Le S S' → Dv K S'.F v d → Q d → R v H') → r x y H R
def dOp (f : F2) (ta tb : DTE) : DTE := fun g m Q => ta g m fun a m1 => tb g m1 fun b m2 => asD m2 a fun x => asD m2 b fun y => f x y fun d => Q (.dat d) m2
variable {e1 e2 : Expr} {t1 t2 : DTE} {pos : Pos}
theorem snd_op {K : PySem.W.Frag} {r : R2} {f : F2} {ta tb : TE} {da db : DTE} (h : Op2 K r f) (ha : Snd K ta da) (hb : Snd K tb db) : Snd K (tOp r ta tb) (dOp f da db) := by
  intro W S g m σ H Q R r0 s hq k
  refine ha W S g m σ H _ _ r0 s hq fun x H1 S1 a m1 r1 l1 ea q1 => ?_
  refine hb W S1 g m1 σ H1 _ _ r1 (s.mono l1) q1 fun y H2 S2 b m2 r2 l2 eb q2 => ?_
  obtain ⟨a', va, q3⟩ := asD_of q2 r2 (EvE.mono l2 ea)
  obtain ⟨b', vb, q4⟩ := asD_of q3 r2 eb
  exact h W S2 m2 H2 x y a' b' _ R r2 va vb q4 fun v H3 S3 d r3 l3 ed q5 => k v H3 S3 (.dat d) m2 r3 ((l1.trans l2).trans l3) ed q5
theorem d_op {op : Operator} {r : R2} {f : F2} (ho : OpR X (binaryOp op) r) (h : Op2 X.K r f) (ha : DE X e1 t1) (hb : DE X e2 t2) : DE X (.BinOp e1 op e2 pos) (dOp f t1 t2) := by
  obtain ⟨_, pa, sa⟩ := ha.ex
  obtain ⟨_, pb, sb⟩ := hb.ex
  exact ⟨_, pe_op ho pa pb, snd_op h sa sb⟩
theorem d_cmp {op : CmpOp} {r : R2} {f : F2} (ho : OpR X (compareOp op) r) (h : Op2 X.K r f) (ha : DE X e1 t1) (hb : DE X e2 t2) (hm : behindInMarks op e2 = false) : DE X (.Compare e1 [op] [e2] pos) (dOp f t1 t2) := by
  obtain ⟨_, pa, sa⟩ := ha.ex
  obtain ⟨_, pb, sb⟩ := hb.ex
  exact ⟨_, pe_cmpR ho pa pb hm, snd_op h sa sb⟩
/-- two rules for one operation -/
theorem OpR.or2 {f : Value → Value → Sem Value} {r r' : R2} (h : OpR X f r) (h' : OpR X f r') : OpR X f (fun x y H Q => r x y H Q ∨ r' x y H Q) := fun pins s σ H x y v u Q I rx ry q => by
  rcases q with q | q
  · exact h pins s σ H x y v u Q I rx ry q
  · exact h' pins s σ H x y v u Q I rx ry q
theorem Op2.orL {K : PySem.W.Frag} {r r' : R2} {f : F2} (h : Op2 K r f) : Op2 K (fun x y H Q => r x y H Q ∨ r' x y H Q) f := fun W S m H x y a b Q R r0 ea eb q k => Or.inl (h W S m H x y a b Q R r0 ea eb q k)

/-- ints in, a datum out -/
def fI (C : Int → Int → Prop) (g : Int → Int → PyData) : F2 := fun a b Q => onI a fun i => onI b fun j => C i j ∧ Q (g i j)
def fI0 (g : Int → Int → PyData) : F2 := fun a b Q => onI a fun i => onI b fun j => Q (g i j)
theorem op2_I {K : PySem.W.Frag} {C : Int → Int → Prop} {gv : Int → Int → V} {g : Int → Int → PyData} (hg : ∀ F i j, Dv K F (gv i j) (g i j)) : Op2 K (rI C gv) (fI C g) := by
  intro W S m H x y a b Q R r0 ea eb q k
  obtain ⟨i, rfl, q'⟩ := onI_of q
  obtain ⟨j, rfl, q''⟩ := onI_of q'
  exact ⟨i, j, vw_int ea, vw_int eb, q''.1, k _ H S _ r0 (Le.refl S) (hg _ i j) q''.2⟩
theorem op2_I0 {K : PySem.W.Frag} {gv : Int → Int → V} {g : Int → Int → PyData} (hg : ∀ F i j, Dv K F (gv i j) (g i j)) : Op2 K (rI0 gv) (fI0 g) := by
  intro W S m H x y a b Q R r0 ea eb q k
  obtain ⟨i, rfl, q'⟩ := onI_of q
  obtain ⟨j, rfl, q''⟩ := onI_of q'
  exact ⟨i, j, vw_int ea, vw_int eb, k _ H S _ r0 (Le.refl S) (hg _ i j) q''⟩

/-! ### tests -/
def dB (t : DTE) : DTT := fun g m Q => t g m fun e m1 => onD e fun d => onB d fun b => Q b m1
def dAnd (t u : DTT) : DTT := fun g m Q => t g m fun c m1 => if c = true then u g m1 Q else Q false m1
def dOr (t u : DTT) : DTT := fun g m Q => t g m fun c m1 => if c = true then Q true m1 else u g m1 Q
def dNot (t : DTT) : DTT := fun g m Q => t g m fun c m1 => Q (!c) m1
theorem snd_B {K : PySem.W.Frag} {te : TE} {t : DTE} (h : Snd K te t) : SndT K (tB te) (dB t) := by
  intro W S g m σ H Q R r0 s hq k
  refine h W S g m σ H _ _ r0 s hq fun x H1 S1 a m1 r1 l1 ea q1 => ?_
  obtain ⟨a', rfl, q1'⟩ := onD_of q1
  obtain ⟨b, rfl, q1''⟩ := onB_of q1'
  exact ⟨b, dv_bl ea, k b H1 S1 m1 r1 l1 q1''⟩
theorem snd_T {K : PySem.W.Frag} {te : TE} {t : DTE} (h : Snd K te t) : SndT K (tTest te) (dB t) := snd_B h
variable {u1 u2 : DTT} {rest : List Expr}
theorem dt_val (h : DE X e1 t1) (he : ∀ whole, isTrue e1 X.env whole = (do let v ← whole; standAt e1.pos; holding [v] (truthy v)) := by intro _; rfl) : DT X e1 (dB t1) := by
  obtain ⟨_, p, s⟩ := h.ex
  exact ⟨_, pt_val p he, snd_B s⟩
theorem dt_cmp {op : CmpOp} {r : R2} {f : F2} (ho : OpR X (compareOp op) r) (h : Op2 X.K r f) (ha : DE X e1 t1) (hb : DE X e2 t2) (hm : behindInMarks op e2 = false) : DT X (.Compare e1 [op] [e2] pos) (dB (dOp f t1 t2)) := by
  obtain ⟨_, pa, sa⟩ := ha.ex
  obtain ⟨_, pb, sb⟩ := hb.ex
  exact ⟨_, pt_cmpR ho pa pb hm, snd_T (snd_op h sa sb)⟩
theorem dw_and1 (h : DT X e1 u1) : DW X (.BoolOp .And [e1] pos) u1 := by
  obtain ⟨_, p, s⟩ := h.ex
  exact ⟨_, pw_and1 p, s⟩
theorem dw_or1 (h : DT X e1 u1) : DW X (.BoolOp .Or [e1] pos) u1 := by
  obtain ⟨_, p, s⟩ := h.ex
  exact ⟨_, pw_or1 p, s⟩
theorem snd_and {K : PySem.W.Frag} {t u : TT} {d f : DTT} (h : SndT K t d) (h' : SndT K u f) : SndT K (tAnd t u) (dAnd d f) := by
  intro W S g m σ H Q R r0 s hq k
  refine h W S g m σ H _ _ r0 s hq fun b H1 S1 m1 r1 l1 q1 => ?_
  cases b with
  | true => exact h' W S1 g m1 σ H1 Q R r1 (s.mono l1) q1 fun c H2 S2 m2 r2 l2 q2 => k c H2 S2 m2 r2 (l1.trans l2) q2
  | false => exact k false H1 S1 m1 r1 l1 q1
theorem snd_or {K : PySem.W.Frag} {t u : TT} {d f : DTT} (h : SndT K t d) (h' : SndT K u f) : SndT K (tOr t u) (dOr d f) := by
  intro W S g m σ H Q R r0 s hq k
  refine h W S g m σ H _ _ r0 s hq fun b H1 S1 m1 r1 l1 q1 => ?_
  cases b with
  | false => exact h' W S1 g m1 σ H1 Q R r1 (s.mono l1) q1 fun c H2 S2 m2 r2 l2 q2 => k c H2 S2 m2 r2 (l1.trans l2) q2
  | true => exact k true H1 S1 m1 r1 l1 q1
theorem dw_and (h : DT X e1 u1) (h' : DW X (.BoolOp .And (e2 :: rest) pos) u2) : DW X (.BoolOp .And (e1 :: e2 :: rest) pos) (dAnd u1 u2) := by
  obtain ⟨_, p, s⟩ := h.ex
  obtain ⟨_, p', s'⟩ := h'.ex
  exact ⟨_, pw_and p p', snd_and s s'⟩
theorem dw_or (h : DT X e1 u1) (h' : DW X (.BoolOp .Or (e2 :: rest) pos) u2) : DW X (.BoolOp .Or (e1 :: e2 :: rest) pos) (dOr u1 u2) := by
  obtain ⟨_, p, s⟩ := h.ex
  obtain ⟨_, p', s'⟩ := h'.ex
  exact ⟨_, pw_or p p', snd_or s s'⟩
theorem DW.t (h : DW X e1 u1) : DT X e1 u1 := by
  obtain ⟨_, p, s⟩ := h.ex
  exact ⟨_, p.pt, s⟩
theorem dt_not (h : DT X e1 u1) : DT X (.UnaryOp .Not e1 pos) (dNot u1) := by
  obtain ⟨_, p, s⟩ := h.ex
  exact ⟨_, pt_not p, fun W S g m σ H Q R r0 sl hq k => s W S g m σ H _ _ r0 sl hq fun b H1 S1 m1 r1 l1 q1 => k (!b) H1 S1 m1 r1 l1 q1⟩
/-- a and b, a or b, not a as values: all but the last bools -/
def dAndV (ta tb : DTE) : DTE := fun g m Q => ta g m fun a m1 => onD a fun d => onB d fun c => if c = true then tb g m1 Q else Q (.dat (.bool false)) m1
def dOrV (ta tb : DTE) : DTE := fun g m Q => ta g m fun a m1 => onD a fun d => onB d fun c => if c = true then Q (.dat (.bool true)) m1 else tb g m1 Q
def dNotV (ta : DTE) : DTE := fun g m Q => ta g m fun a m1 => onD a fun d => onB d fun c => Q (.dat (.bool (!c))) m1
theorem d_one {op} (h : DE X e1 t1) : DE X (.BoolOp op [e1] pos) t1 := by
  obtain ⟨_, p, s⟩ := h.ex
  exact ⟨_, pe_one p, s⟩
theorem d_and (h : DE X e1 t1) (h' : DE X (.BoolOp .And (e2 :: rest) pos) t2) : DE X (.BoolOp .And (e1 :: e2 :: rest) pos) (dAndV t1 t2) := by
  obtain ⟨_, p, s⟩ := h.ex
  obtain ⟨_, p', s'⟩ := h'.ex
  refine ⟨_, pe_and p p', fun W S g m σ H Q R r0 sl hq k => ?_⟩
  refine s W S g m σ H _ _ r0 sl hq fun x H1 S1 a m1 r1 l1 ea q1 => ?_
  obtain ⟨a', rfl, q1'⟩ := onD_of q1
  obtain ⟨b, rfl, q1''⟩ := onB_of q1'
  refine ⟨b, dv_bl ea, ?_⟩
  cases b with
  | true => exact s' W S1 g m1 σ H1 Q R r1 (sl.mono l1) q1'' fun v H2 S2 e m2 r2 l2 => k v H2 S2 e m2 r2 (l1.trans l2)
  | false => exact k (.bl false) H1 S1 (.dat (.bool false)) m1 r1 l1 (Dv.bl false) q1''
theorem d_or (h : DE X e1 t1) (h' : DE X (.BoolOp .Or (e2 :: rest) pos) t2) : DE X (.BoolOp .Or (e1 :: e2 :: rest) pos) (dOrV t1 t2) := by
  obtain ⟨_, p, s⟩ := h.ex
  obtain ⟨_, p', s'⟩ := h'.ex
  refine ⟨_, pe_or p p', fun W S g m σ H Q R r0 sl hq k => ?_⟩
  refine s W S g m σ H _ _ r0 sl hq fun x H1 S1 a m1 r1 l1 ea q1 => ?_
  obtain ⟨a', rfl, q1'⟩ := onD_of q1
  obtain ⟨b, rfl, q1''⟩ := onB_of q1'
  refine ⟨b, dv_bl ea, ?_⟩
  cases b with
  | false => exact s' W S1 g m1 σ H1 Q R r1 (sl.mono l1) q1'' fun v H2 S2 e m2 r2 l2 => k v H2 S2 e m2 r2 (l1.trans l2)
  | true => exact k (.bl true) H1 S1 (.dat (.bool true)) m1 r1 l1 (Dv.bl true) q1''
theorem d_not (h : DE X e1 t1) : DE X (.UnaryOp .Not e1 pos) (dNotV t1) := by
  obtain ⟨_, p, s⟩ := h.ex
  refine ⟨_, pe_not p, fun W S g m σ H Q R r0 sl hq k => ?_⟩
  refine s W S g m σ H _ _ r0 sl hq fun x H1 S1 a m1 r1 l1 ea q1 => ?_
  obtain ⟨a', rfl, q1'⟩ := onD_of q1
  obtain ⟨b, rfl, q1''⟩ := onB_of q1'
  exact ⟨b, dv_bl ea, k (.bl (!b)) H1 S1 (.dat (.bool (!b))) m1 r1 l1 (Dv.bl (!b)) q1''⟩
/-- a if t else b -/
def dIf (t : DTT) (ta tb : DTE) : DTE := fun g m Q => t g m fun c m1 => if c = true then ta g m1 Q else tb g m1 Q
theorem d_if {c : Expr} (h : DT X c u1) (ha : DE X e1 t1) (hb : DE X e2 t2) : DE X (.IfExp c e1 e2 pos) (dIf u1 t1 t2) := by
  obtain ⟨_, p, s⟩ := h.ex
  obtain ⟨_, pa, sa⟩ := ha.ex
  obtain ⟨_, pb, sb⟩ := hb.ex
  refine ⟨_, pe_ifExp p pa pb, fun W S g m σ H Q R r0 sl hq k => ?_⟩
  refine s W S g m σ H _ _ r0 sl hq fun b H1 S1 m1 r1 l1 q1 => ?_
  cases b with
  | true => exact sa W S1 g m1 σ H1 Q R r1 (sl.mono l1) q1 fun v H2 S2 e m2 r2 l2 => k v H2 S2 e m2 r2 (l1.trans l2)
  | false => exact sb W S1 g m1 σ H1 Q R r1 (sl.mono l1) q1 fun v H2 S2 e m2 r2 l2 => k v H2 S2 e m2 r2 (l1.trans l2)
/-- is None, is not None -/
def isNon : PyData → Bool
  | .none => true
  | _ => false
def fIsN (neg : Bool) : F2 := fun a b Q => b = .none ∧ Q (.bool (if neg then !isNon a else isNon a))
theorem isNon_v {K : PySem.W.Frag} {F H : Hp} {x : V} {a : PyData} (h : Vw K F H x a) : decide (x = .non) = isNon a := by
  rcases h with h | ⟨p, vs, ds, rfl, rfl, _⟩
  · cases h <;> rfl
  · rfl
theorem op2_isN {K : PySem.W.Frag} : Op2 K (fun x y H Q => y = .non ∧ Q (.bl (decide (x = .non))) H) (fIsN false) := by
  intro W S m H x y a b Q R r0 ea eb q k
  obtain ⟨rfl, q⟩ := q
  refine ⟨vw_non eb, ?_⟩
  rw [isNon_v ea]
  exact k _ H S _ r0 (Le.refl S) (.bl _) q
theorem op2_notN {K : PySem.W.Frag} : Op2 K (fun x y H Q => y = .non ∧ Q (.bl (!decide (x = .non))) H) (fIsN true) := by
  intro W S m H x y a b Q R r0 ea eb q k
  obtain ⟨rfl, q⟩ := q
  refine ⟨vw_non eb, ?_⟩
  rw [isNon_v ea]
  exact k _ H S _ r0 (Le.refl S) (.bl _) q

/-! ### argument lists, displays -/
def dNil : DTA := fun _ m Q => Q [] m
def dCons (ta : DTE) (tr : DTA) : DTA := fun g m Q => ta g m fun a m1 => tr g m1 fun es m2 => Q (a :: es) m2
variable {es : List Expr} {tr : DTA}
theorem da_nil : DA X [] dNil := ⟨_, pa_nil, fun W S g m σ H Q R r0 sl hq k => k [] H S [] m r0 (Le.refl S) .nil hq⟩
theorem da_cons (h : DE X e1 t1) (h' : DA X es tr) (hs : starEach (e1 :: es) X.env = (false, eval e1 X.env) :: starEach es X.env := by rfl) : DA X (e1 :: es) (dCons t1 tr) := by
  obtain ⟨_, p, s⟩ := h.ex
  obtain ⟨_, p', s'⟩ := h'.ex
  refine ⟨_, pa_cons p p' hs, fun W S g m σ H Q R r0 sl hq k => ?_⟩
  refine s W S g m σ H _ _ r0 sl hq fun x H1 S1 a m1 r1 l1 ea q1 => ?_
  exact s' W S1 g m1 σ H1 _ _ r1 (sl.mono l1) q1 fun vs H2 S2 es m2 r2 l2 er q2 => k (x :: vs) H2 S2 (a :: es) m2 r2 (l1.trans l2) (.cons (EvE.mono l2 ea) er) q2
theorem EvEs.length {K : PySem.W.Frag} {S : Sd} {vs : List V} {es : List E} (h : EvEs K S vs es) : vs.length = es.length := Paired.length h
def dTup (ta : DTA) : DTE := fun g m Q => ta g m fun es m1 => allD es fun ds => ds.length ≤ sizeLine ∧ Q (.dat (.tuple ds)) m1
def dLst (ta : DTA) : DTE := fun g m Q => ta g m fun es m1 => allD es fun ds => ds.length ≤ sizeLine ∧ Q (.dat (.list ds)) m1
/-- a written list that will change -/
def dLstM (ta : DTA) : DTE := fun g m Q => ta g m fun es m1 => es.length ≤ sizeLine ∧ Q (.loc m1.length) (m1 ++ [.lst es])
theorem d_tup {x1} (h : DA X es tr) : DE X (.Tuple es x1 pos) (dTup tr) := by
  obtain ⟨_, p, s⟩ := h.ex
  refine ⟨_, pe_tup p, fun W S g m σ H Q R r0 sl hq k => ?_⟩
  refine s W S g m σ H _ _ r0 sl hq fun vs H1 S1 es m1 r1 l1 ea q1 => ?_
  obtain ⟨ds, rfl, z, q1⟩ := allD_of q1
  have ev := evs_dat ea
  refine ⟨by rw [ev.length]; exact z, fun p hp => ?_⟩
  obtain ⟨r2, l2⟩ := r1.frz (o := .tup vs) hp
  exact k _ _ _ (.dat (.tuple ds)) m1 r2 (l1.trans l2) (Dv.tup (Or.inl (Or.inl upd_same)) (DvAll.mono l2.f ev)) q1
theorem d_lst (h : DA X es tr) : DE X (.List es pos) (dLst tr) := by
  obtain ⟨_, p, s⟩ := h.ex
  refine ⟨_, pe_lst p, fun W S g m σ H Q R r0 sl hq k => ?_⟩
  refine s W S g m σ H _ _ r0 sl hq fun vs H1 S1 es m1 r1 l1 ea q1 => ?_
  obtain ⟨ds, rfl, z, q1⟩ := allD_of q1
  have ev := evs_dat ea
  refine ⟨by rw [ev.length]; exact z, fun p hp => ?_⟩
  obtain ⟨r2, l2⟩ := r1.frz (o := .lst vs) hp
  exact k _ _ _ (.dat (.list ds)) m1 r2 (l1.trans l2) (Dv.lst upd_same (DvAll.mono l2.f ev)) q1
/-- a new thing goes into the ledger -/
theorem Rep.own {K : PySem.W.Frag} {W : Wd} {S : Sd} {m : Mm} {H : Hp} {p : Addr} {o : HO} {d : OD} (R : Rep K W S m H) (h : H p = none) (hd : ∀ S' H', Le S S' → H' p = some o → OkO K S' H' p d) :
    Rep K W ⟨S.F, S.A ++ [p]⟩ (m ++ [d]) (upd H p o) ∧ Le S ⟨S.F, S.A ++ [p]⟩ ∧ (S.A ++ [p])[m.length]? = some p := by
  have np := R.not_mem h
  have R1 : Rep K W S m (upd H p o) := R.aside np (R.freshF h) (R.fresh0 h)
  obtain ⟨a, b⟩ := R1.enlist (d := d) np (R.freshF h) (R.fresh0 h) (by rw [upd_same]; exact fun z => nomatch z) (hd S _ (Le.refl S) upd_same)
  refine ⟨a, b, ?_⟩
  rw [List.getElem?_append_right (by rw [R.len]; exact Nat.le_refl _), R.len, Nat.sub_self]
  rfl
theorem d_lstM (h : DA X es tr) : DE X (.List es pos) (dLstM tr) := by
  obtain ⟨_, p, s⟩ := h.ex
  refine ⟨_, pe_lst p, fun W S g m σ H Q R r0 sl hq k => ?_⟩
  refine s W S g m σ H _ _ r0 sl hq fun vs H1 S1 es m1 r1 l1 ea q1 => ?_
  refine ⟨by rw [EvEs.length ea]; exact q1.1, fun p hp => ?_⟩
  obtain ⟨r2, l2, e2⟩ := r1.own (o := .lst vs) (d := .lst es) hp fun S' H' l' e' => ⟨vs, e', EvEs.mono l' ea⟩
  exact k _ _ _ (.loc m1.length) _ r2 (l1.trans l2) ⟨p, e2, rfl⟩ q1.2
end

/-! ### statements -/
section
variable {X : Cx} {st : Stmt} {rest : List Stmt} {t u : DTS} {e : Expr} {te : DTE} {pos : Pos}
def dNext : DTS := fun D g m => D.nx g m
def dSeq (t u : DTS) : DTS := fun D g m => t { D with nx := u D } g m
theorem ds_nil : DSs X [] dNext := ⟨_, pss_nil, fun W S g m σ H D R r0 sl hq k => k.nx σ H S g m r0 (Le.refl S) sl hq⟩
theorem ds_cons (h : DS X st t) (h' : DSs X rest u) : DSs X (st :: rest) (dSeq t u) := by
  obtain ⟨_, p, s⟩ := h.ex
  obtain ⟨_, p', s'⟩ := h'.ex
  refine ⟨_, pss_cons p p', fun W S g m σ H D R r0 sl hq k => ?_⟩
  refine s W S g m σ H _ _ r0 sl hq ⟨fun σ1 H1 S1 g1 m1 r1 l1 sl1 q1 => ?_, k.rt, k.bk, k.ct⟩
  exact s' W S1 g1 m1 σ1 H1 D R r1 sl1 q1 (k.le l1)
theorem ds_one (h : DS X st t) : DSs X [st] t := by
  obtain ⟨_, p, s⟩ := h.ex
  exact ⟨_, pss_one p, s⟩
theorem ds_pass : DS X (.Pass pos) dNext := ⟨_, ps_pass, fun W S g m σ H D R r0 sl hq k => k.nx σ H S g m r0 (Le.refl S) sl hq⟩
def dBreak : DTS := fun D g m => D.bk g m
def dCont : DTS := fun D g m => D.ct g m
theorem ds_break : DS X (.Break pos) dBreak := ⟨_, ps_break, fun W S g m σ H D R r0 sl hq k => k.bk σ H S g m r0 (Le.refl S) sl hq⟩
theorem ds_cont : DS X (.Continue pos) dCont := ⟨_, ps_continue, fun W S g m σ H D R r0 sl hq k => k.ct σ H S g m r0 (Le.refl S) sl hq⟩
theorem ds_doc {x j pos pos'} : DS X (.Expr (.Constant (.str x) j pos) pos') dNext := ⟨_, ps_doc, fun W S g m σ H D R r0 sl hq k => k.nx σ H S g m r0 (Le.refl S) sl hq⟩
def dDrop (te : DTE) : DTS := fun D g m => te g m fun _ m1 => D.nx g m1
theorem ds_expr (h : DE X e te) (hs : swapsWith e none pos.line X.env = pure false := by rfl) : DS X (.Expr e pos) (dDrop te) := by
  obtain ⟨_, p, s⟩ := h.ex
  exact ⟨_, ps_expr p hs, fun W S g m σ H D R r0 sl hq k => s W S g m σ H _ _ r0 sl hq fun v H1 S1 e m1 r1 l1 _ q1 => k.nx σ H1 S1 g m1 r1 l1 (sl.mono l1) q1⟩
def dRet (te : DTE) : DTS := fun D g m => te g m D.rt
theorem ds_ret (h : DE X e te) : DS X (.Return (some e) pos) (dRet te) := by
  obtain ⟨_, p, s⟩ := h.ex
  exact ⟨_, ps_ret p, fun W S g m σ H D R r0 sl hq k => s W S g m σ H _ _ r0 sl hq fun v H1 S1 e m1 r1 l1 ev q1 => k.rt v H1 S1 e m1 r1 l1 ev q1⟩
def dRetN : DTS := fun D _ m => D.rt (.dat .none) m
theorem ds_retN : DS X (.Return none pos) dRetN := ⟨_, ps_retN, fun W S g m σ H D R r0 sl hq k => k.rt .non H S (.dat .none) m r0 (Le.refl S) .non hq⟩
def dIfS (c : DTT) (t u : DTS) : DTS := fun D g m => c g m fun b m1 => if b = true then t D g m1 else u D g m1
theorem ds_if {c : Expr} {a b : List Stmt} {tc : DTT} (h : DT X c tc) (ha : DSs X a t) (hb : DSs X b u) : DS X (.If c a b pos) (dIfS tc t u) := by
  obtain ⟨_, p, s⟩ := h.ex
  obtain ⟨_, pa, sa⟩ := ha.ex
  obtain ⟨_, pb, sb⟩ := hb.ex
  refine ⟨_, ps_if p pa pb, fun W S g m σ H D R r0 sl hq k => ?_⟩
  refine s W S g m σ H _ _ r0 sl hq fun b H1 S1 m1 r1 l1 q1 => ?_
  cases b with
  | true => exact sa W S1 g m1 σ H1 D R r1 (sl.mono l1) q1 (k.le l1)
  | false => exact sb W S1 g m1 σ H1 D R r1 (sl.mono l1) q1 (k.le l1)
def dNever : DTS := fun _ _ _ => False
theorem ds_never : DS X st dNever := ⟨_, ps_never, fun W S g m σ H D R r0 sl hq k => hq.elim⟩
theorem dss_never {sts : List Stmt} : DSs X sts dNever := ⟨_, pss_never, fun W S g m σ H D R r0 sl hq k => hq.elim⟩

/-! ### targets -/
def dgName (i : Nat) : DTG := fun e g m Q => Q (g.set i (some e)) m
theorem dg_name {i : Nat} {x : Str} (hN : X.N.Nodup) (hi : X.N[i]? = some x := by rfl) (hx : Loc X.env.scope x := by first | exact Or.inl rfl | exact Or.inr rfl) (hf : X.fn x = true ∨ X.env.scope.names.lookup x = some .local := by first | exact .inl rfl | exact .inr rfl | assumption) :
    DG X (.Name x pos) (dgName i) :=
  ⟨_, pg_name hN hi hx hf, fun W S g m σ H v e Q R r0 sl ev hq k => k _ H S _ m r0 (Le.refl S) (sl.set ev) hq⟩
def dgNil : DTGs := fun es g m Q => es = [] ∧ Q g m
def dgCons (t : DTG) (u : DTGs) : DTGs := fun es g m Q => match es with
  | e :: r => t e g m fun g1 m1 => u r g1 m1 Q
  | [] => False
theorem dgs_nil : DGs X [] dgNil := ⟨_, pgs_nil, fun W S g m σ H vs es Q R r0 sl ev hq k => by
  obtain ⟨e, q⟩ := hq
  subst e
  cases ev
  exact ⟨rfl, k σ H S g m r0 (Le.refl S) sl q⟩⟩
theorem dgs_cons {e : Expr} {es : List Expr} {t : DTG} {u : DTGs} (h : DG X e t) (h' : DGs X es u)
    (hs : (assignEach (e :: es) X.env).map (·.2) = assign e X.env :: (assignEach es X.env).map (·.2) := by rfl) : DGs X (e :: es) (dgCons t u) := by
  obtain ⟨_, p, s⟩ := h.ex
  obtain ⟨_, p', s'⟩ := h'.ex
  refine ⟨_, pgs_cons p p' hs, fun W S g m σ H vs es Q R r0 sl ev hq k => ?_⟩
  cases ev with
  | nil => exact hq.elim
  | cons ev er =>
    refine ⟨_, _, rfl, ?_⟩
    refine s W S g m σ H _ _ _ _ r0 sl ev hq fun σ1 H1 S1 g1 m1 r1 l1 sl1 q1 => ?_
    exact s' W S1 g1 m1 σ1 H1 _ _ Q R r1 sl1 (EvEs.mono l1 er) q1 fun σ2 H2 S2 g2 m2 r2 l2 => k σ2 H2 S2 g2 m2 r2 (l1.trans l2)
/-- a, b, .. = a tuple of so many -/
def onTup : E → (List PyData → Prop) → Prop
  | .dat (.tuple ds), Q => Q ds
  | _, _ => False
theorem onTup_of {e : E} {Q : List PyData → Prop} (h : onTup e Q) : ∃ ds, e = .dat (.tuple ds) ∧ Q ds := by
  match e, h with
  | .dat (.tuple ds), h => exact ⟨ds, rfl, h⟩
def dgTup (n : Nat) (t : DTGs) : DTG := fun e g m Q => onTup e fun ds => ds.length = n ∧ t (ds.map .dat) g m Q
theorem dg_tup {es : List Expr} {k : Nat} {t : DTGs} {n : Nat} (hc : X.calm = true) (h : DGs X es t)
    (hn : (assignEach es X.env).length = n := by rfl) (hst : (assignEach es X.env).findIdx? (·.1) = none := by rfl) : DG X (.Tuple es k pos) (dgTup n t) := by
  obtain ⟨_, p, s⟩ := h.ex
  refine ⟨_, pg_tup hc p hn hst, fun W S g m σ H v e Q R r0 sl ev hq k => ?_⟩
  obtain ⟨ds, rfl, hl, q⟩ := onTup_of hq
  cases (show Dv X.K S.F v (.tuple ds) from ev) with
  | tup hT hA =>
    exact ⟨_, _, rfl, r0.sub.st hT, by rw [hA.length]; exact hl, s W S g m σ H _ _ Q R r0 sl (dat_evs hA) q k⟩
/-- target = value -/
def dAsg (te : DTE) (tg : DTG) : DTS := fun D g m => te g m fun e m1 => tg e g m1 D.nx
theorem ds_asg {tg : Expr} {dg : DTG} (h : DE X e te) (h' : DG X tg dg) (hs : swapsWithSole [tg] e pos.line X.env = pure false := by rfl) (hw : swappedStores [tg] e X.env = pure none := by rfl)
    (h1 : (assignEach [tg] X.env).map (·.2) = [assign tg X.env] := by rfl) : DS X (.Assign [tg] e pos) (dAsg te dg) := by
  obtain ⟨_, p, s⟩ := h.ex
  obtain ⟨_, p', s'⟩ := h'.ex
  refine ⟨_, ps_asg p p' hs hw h1, fun W S g m σ H D R r0 sl hq k => ?_⟩
  refine s W S g m σ H _ _ r0 sl hq fun v H1 S1 e m1 r1 l1 ev q1 => ?_
  exact s' W S1 g m1 σ H1 v e _ _ r1 (sl.mono l1) ev q1 fun σ2 H2 S2 g2 m2 r2 l2 sl2 q2 => k.nx σ2 H2 S2 g2 m2 r2 (l1.trans l2) sl2 q2
theorem ds_set {i : Nat} {x : Str} {pos' : Pos} (hN : X.N.Nodup) (h : DE X e te) (hi : X.N[i]? = some x := by rfl) (hx : Loc X.env.scope x := by first | exact Or.inl rfl | exact Or.inr rfl) (hs : swapsWith e (some (.Name x pos')) pos.line X.env = pure false := by rfl)
    (hf : X.fn x = true ∨ X.env.scope.names.lookup x = some .local := by first | exact .inl rfl | exact .inr rfl | assumption) : DS X (.Assign [.Name x pos'] e pos) (dAsg te (dgName i)) := by
  obtain ⟨_, p, s⟩ := h.ex
  refine ⟨_, ps_set hN hi hx p hs hf, fun W S g m σ H D R r0 sl hq k => ?_⟩
  exact s W S g m σ H _ _ r0 sl hq fun v H1 S1 e m1 r1 l1 ev q1 => k.nx _ H1 S1 _ m1 r1 l1 ((sl.mono l1).set ev) q1
/-- a, b = x, y -/
def dPar (i j : Nat) (ta : DTA) : DTS := fun D g m => ta g m fun es m1 => match es with
  | [a, b] => D.nx ((g.set i (some a)).set j (some b)) m1
  | _ => False
theorem ds_par {i j : Nat} {x y : Str} {a b : Expr} {ta : DTA} {px py pt : Pos} {kt k2 pt2} (hc : X.calm = true) (hN : X.N.Nodup) (h : DA X [a, b] ta) (hi : X.N[i]? = some x := by rfl) (hj : X.N[j]? = some y := by rfl) (hij : i ≠ j := by decide)
    (hx : X.env.scope.names.lookup x = some .local := by rfl) (hy : X.env.scope.names.lookup y = some .local := by rfl)
    (hw : swappedStores [.Tuple [.Name x px, .Name y py] kt pt] (.Tuple [a, b] k2 pt2) X.env = pure (some [x, y]) := by rfl)
    (hs : swapsWithSole [.Tuple [.Name x px, .Name y py] kt pt] (.Tuple [a, b] k2 pt2) pos.line X.env = pure false := by rfl) :
    DS X (.Assign [.Tuple [.Name x px, .Name y py] kt pt] (.Tuple [a, b] k2 pt2) pos) (dPar i j ta) := by
  obtain ⟨_, p, s⟩ := h.ex
  refine ⟨_, ps_par hc hN hi hj hij hx hy p hw hs, fun W S g m σ H D R r0 sl hq k => ?_⟩
  refine s W S g m σ H _ _ r0 sl hq fun vs H1 S1 es m1 r1 l1 er q1 => ?_
  match es, vs, er, q1 with
  | [a, b], [v, w], .cons ha (.cons hb .nil), q1 => exact ⟨v, w, rfl, k.nx _ H1 S1 _ m1 r1 l1 (((sl.mono l1).set ha).set hb) q1⟩
/-- name op= value -/
def dAug (i : Nat) (f : F2) (te : DTE) : DTS := fun D g m => dVar i g m fun a _ => te g m fun b m1 => asD m1 a fun x => asD m1 b fun y => f x y fun d => D.nx (g.set i (some (.dat d))) m1
theorem ds_aug {i : Nat} {x : Str} {op : Operator} {ti : TIp} {f : F2} {pos' : Pos} (hN : X.N.Nodup) (h : DE X e te) (ho : PIp X op ti) (h2 : Op2 X.K ti f) (hi : X.N[i]? = some x := by rfl) (hx : Loc X.env.scope x := by first | exact Or.inl rfl | exact Or.inr rfl)
    (hf : X.fn x = true ∨ X.env.scope.names.lookup x = some .local := by first | exact .inl rfl | exact .inr rfl | assumption) : DS X (.AugAssign (.Name x pos') op e pos) (dAug i f te) := by
  obtain ⟨_, p, s⟩ := h.ex
  refine ⟨_, ps_aug hN hi hx p ho hf, fun W S g m σ H D R r0 sl hq k => ?_⟩
  have h' : (match g[i]? with | some (some a) => te g m fun b m1 => asD m1 a fun x => asD m1 b fun y => f x y fun d => D.nx (g.set i (some (.dat d))) m1 | _ => False) := hq
  split at h'
  · rename_i a ha
    obtain ⟨v, hv, ev⟩ := sl.at_ i a ha
    refine ⟨v, hv, s W S g m σ H _ _ r0 sl h' fun w H1 S1 b m1 r1 l1 eb q1 => ?_⟩
    obtain ⟨a', va, q3⟩ := asD_of q1 r1 (EvE.mono l1 ev)
    obtain ⟨b', vb, q4⟩ := asD_of q3 r1 eb
    exact h2 W S1 m1 H1 v w a' b' _ _ r1 va vb q4 fun z H2 S2 d r2 l2 ed q2 => k.nx _ H2 S2 _ m1 r2 (l1.trans l2) ((sl.mono (l1.trans l2)).set (e := .dat d) ed) q2
  · exact h'.elim
/-- while -/
def dWhile (c : DTT) (tb : DTS) : DTS := fun D g m => ∃ I : Nat → Gm → Mm → Prop, (∃ n, I n g m) ∧ ∀ n g m, I n g m → c g m fun b m1 =>
  if b = true then tb { D with nx := fun g' m' => ∃ n', n' < n ∧ I n' g' m', ct := fun g' m' => ∃ n', n' < n ∧ I n' g' m', bk := D.nx } g m1 else D.nx g m1
theorem ds_while {c : Expr} {body : List Stmt} {tc : DTT} {tb : DTS} (hp : PassesOwn (model X.prog X.w) X.A X.env X.xe) (h : DT X c tc) (h' : DSs X body tb) : DS X (.While c body [] pos) (dWhile tc tb) := by
  obtain ⟨_, p, s⟩ := h.ex
  obtain ⟨_, p', s'⟩ := h'.ex
  refine ⟨_, ps_while hp p p', fun W S g m σ H D R r0 sl hq k => ?_⟩
  obtain ⟨I, ⟨n0, i0⟩, turn⟩ := hq
  refine ⟨fun n σ H => ∃ S1 g m, Rep X.K W S1 m H ∧ Le S S1 ∧ Sl X.K S1 σ g ∧ I n g m, ⟨n0, S, g, m, r0, Le.refl S, sl, i0⟩, ?_⟩
  rintro n σ H ⟨S1, g, m, r1, l1, sl1, i1⟩
  refine s W S1 g m σ H _ _ r1 sl1 (turn n g m i1) fun b H2 S2 m2 r2 l2 q2 => ?_
  cases b with
  | false => exact k.nx σ H2 S2 g m2 r2 (l1.trans l2) (sl1.mono l2) q2
  | true =>
    refine ⟨fun σ' H' => ∃ S' g' m', Rep X.K W S' m' H' ∧ Le S S' ∧ Sl X.K S' σ' g' ∧ ∃ n', n' < n ∧ I n' g' m', fun σ' H' ⟨S', g', m', a, b, c, n', d, e⟩ => ⟨n', d, S', g', m', a, b, c, e⟩, ?_⟩
    have l02 := l1.trans l2
    exact s' W S2 g m2 σ H2 _ _ r2 (sl1.mono l2) q2 ⟨fun σ' H' S' g' m' a b c d => ⟨S', g', m', a, l02.trans b, c, d⟩, fun v H' S' e m' a b => k.rt v H' S' e m' a (l02.trans b),
      fun σ' H' S' g' m' a b c d => k.nx σ' H' S' g' m' a (l02.trans b) c d, fun σ' H' S' g' m' a b c d => ⟨S', g', m', a, l02.trans b, c, d⟩⟩
/-- between two statements: the k-th thing, a list of data, will not change any more -/
def frE (k : Nat) (d : PyData) : E → E
  | .loc j => if j = k then .dat d else .loc j
  | e => e
def frO (k : Nat) (d : PyData) : OD → OD
  | .lst xs => .lst (xs.map (frE k d))
  | .dic kvs => .dic (kvs.map fun p => (p.1, frE k d p.2))
  | .ins C fs => .ins C (fs.map fun p => (p.1, frE k d p.2))
  | .gone => .gone
end
end DL
/-! DLc: promises of defs over data, calls, loops, comprehensions, the ledger frozen. -/
namespace DL
open PySem PySem.Spec PyProof.Rows L2

/-! ### promises -/
/-- arguments, the ledger, what is wanted of the answer and the ledger behind -/
abbrev DSp := List E → Mm → (E → Mm → Prop) → Prop
def toSp (K : PySem.W.Frag) (n : Nat) (ds : DSp) : Sp := fun vs H Q _ => vs.length = n ∧ ∃ (S : Sd) (es : List E) (m : Mm) (dQ : E → Mm → Prop), Rep K ⟨H, S.A, S.F⟩ S m H ∧ EvEs K S vs es ∧ ds es m dQ ∧
  ∀ v H' S' e m', Rep K ⟨H, S.A, S.F⟩ S' m' H' → Le S S' → EvE K S' v e → dQ e m' → Q v H'
abbrev FnD (P : Program) (w : World) (K : PySem.W.Frag) (mg : Str → Option Value) (base : Heap) (k : Nat) (f : Addr) (fd : FuncData) (ps : List Str) (ds : DSp) : Prop :=
  FnG P w K mg base CX0 k f fd ps (toSp K ps.length ds)
def startG (N : List Str) (es : List E) : Gm := es.map some ++ List.replicate (N.length - es.length) none
theorem sl_start {K : PySem.W.Frag} {S : Sd} {N : List Str} {vs : List V} {es : List E} (h : EvEs K S vs es) : Sl K S (L2.start N vs) (startG N es) := by
  have hl := EvEs.length h
  refine ⟨?_, fun i e q => ?_⟩
  · unfold L2.start startG
    rw [List.length_append, List.length_append, List.length_map, List.length_map, List.length_replicate, List.length_replicate, hl]
  · unfold startG at q
    by_cases hi : i < es.length
    · rw [List.getElem?_append_left (by rw [List.length_map]; exact hi), List.getElem?_map] at q
      obtain ⟨v, hv, r⟩ : ∃ v, vs[i]? = some v ∧ EvE K S v e := by
        clear hl
        induction h generalizing i with
        | nil => simp at hi
        | cons r t ih =>
          cases i with
          | zero =>
            have e1 : some (some _) = some (some e) := q
            cases e1
            exact ⟨_, rfl, r⟩
          | succ i => exact ih i q (by simpa using hi)
      refine ⟨v, ?_, r⟩
      unfold L2.start
      rw [List.getElem?_append_left (by rw [List.length_map, hl]; exact hi), List.getElem?_map, hv]
      rfl
    · rw [List.getElem?_append_right (by rw [List.length_map]; omega), List.getElem?_replicate] at q
      split at q <;> cases q
section
variable {P : Program} {w : World} {K : PySem.W.Frag} {mg : Str → Option Value} {base : Heap}
/-- a def holds its promise -/
theorem okD {x qual : Str} {st : Stmt} {f : Addr} {fd : FuncData} {N ps : List Str} {k : Nat} {ds : DSp} {t : DTS} (F : Fun K x qual st f fd) (S : FnScope N ps (defScope st))
    (hbody : ∀ (cdv : Value) (A : Around) (outer : List Env) (s : Shared) (H : Hp) (Xe : XK), (A.deeper (envOfC qual (defScope st) s.heap.objs.size f cdv)).guards = some [] → Room k (A.deeper (envOfC qual (defScope st) s.heap.objs.size f cdv)) →
      DSs (cxOf CX0 P w K mg base N qual (defScope st) f cdv A outer s H Xe).nox (defBody st) t)
    (hds : ∀ es m dQ, es.length = ps.length → ds es m dQ → t { nx := fun _ m' => dQ (.dat .none) m', rt := dQ } (startG N es) m) : FnD P w K mg base (k + 1) f fd ps ds := by
  refine okG F S (fun vs H Q Xe h => h.1) fun cdv A outer s H vs Q Xe hg hr h => ?_
  obtain ⟨ts, p, sn⟩ := (hbody cdv A outer s H Xe hg hr).ex
  obtain ⟨hl, S', es, m, dQ, r, er, hd, k⟩ := h
  refine ⟨ts, p.nox, sn _ S' _ m _ H _ _ r (sl_start er) (hds es m dQ ((EvEs.length er).symm.trans hl) hd) ⟨fun σ1 H1 S1 g1 m1 r1 l1 _ q1 => k .non H1 S1 (.dat .none) m1 r1 l1 .non q1, fun v H1 S1 e m1 r1 l1 ev q1 => k v H1 S1 e m1 r1 l1 ev q1, fun _ _ _ _ _ _ _ _ q => q, fun _ _ _ _ _ _ _ _ q => q⟩⟩
end

/-! ### calls -/
def inE (n : Nat) : E → Bool
  | .dat _ => true
  | .loc k => decide (k < n)
  | .scr _ => true
def inO (n : Nat) : OD → Bool
  | .lst xs => xs.all (inE n)
  | .dic kvs => kvs.all fun p => inE n p.2
  | .ins _ fs => fs.all fun p => inE n p.2
  | .gone => true
theorem evE_cut {K : PySem.W.Frag} {F F' : Hp} {A A' : List Addr} {n : Nat} (hF : Sub F F') (hA : ∀ k p, k < n → A[k]? = some p → A'[k]? = some p) : ∀ {v : V} {e : E}, inE n e = true → EvE K ⟨F, A⟩ v e → EvE K ⟨F', A'⟩ v e
  | _, .dat _, _, h => Dv.mono hF h
  | _, .loc k, hn, ⟨p, h, e⟩ => ⟨p, hA k p (of_decide_eq_true hn) h, e⟩
  | _, .scr _, _, ⟨a, e, h⟩ => ⟨a, e, hF.sl h⟩
theorem evEs_cut {K : PySem.W.Frag} {F F' : Hp} {A A' : List Addr} {n : Nat} (hF : Sub F F') (hA : ∀ k p, k < n → A[k]? = some p → A'[k]? = some p) : ∀ {vs : List V} {es : List E}, es.all (inE n) = true → EvEs K ⟨F, A⟩ vs es → EvEs K ⟨F', A'⟩ vs es
  | _, _, _, .nil => .nil
  | _, _, hn, .cons h t => by
    have hn' : (inE n _ && List.all _ (inE n)) = true := hn
    rw [Bool.and_eq_true] at hn'
    exact .cons (evE_cut hF hA hn'.1 h) (evEs_cut hF hA hn'.2 t)
theorem evKv_cut {K : PySem.W.Frag} {F F' : Hp} {A A' : List Addr} {n : Nat} (hF : Sub F F') (hA : ∀ k p, k < n → A[k]? = some p → A'[k]? = some p) : ∀ {vs : List (Key × V)} {es : List (Key × E)}, (es.all fun p => inE n p.2) = true → EvKv K ⟨F, A⟩ vs es → EvKv K ⟨F', A'⟩ vs es
  | _, [], _, .nil => .nil
  | _, b :: es, hn, .cons h t => by
    have hn' : (inE n b.2 && es.all fun p => inE n p.2) = true := hn
    rw [Bool.and_eq_true] at hn'
    exact .cons ⟨h.1, evE_cut hF hA hn'.1 h.2⟩ (evKv_cut hF hA hn'.2 t)
theorem evFs_cut {K : PySem.W.Frag} {F F' : Hp} {A A' : List Addr} {n : Nat} (hF : Sub F F') (hA : ∀ k p, k < n → A[k]? = some p → A'[k]? = some p) : ∀ {vs : List (Str × V)} {es : List (Str × E)}, (es.all fun p => inE n p.2) = true → EvFs K ⟨F, A⟩ vs es → EvFs K ⟨F', A'⟩ vs es
  | _, [], _, .nil => .nil
  | _, b :: es, hn, .cons h t => by
    have hn' : (inE n b.2 && es.all fun p => inE n p.2) = true := hn
    rw [Bool.and_eq_true] at hn'
    exact .cons ⟨h.1, evE_cut hF hA hn'.1 h.2⟩ (evFs_cut hF hA hn'.2 t)
theorem okO_cut {K : PySem.W.Frag} {F F' : Hp} {A A' : List Addr} {n : Nat} {H H' : Hp} {p : Addr} (hF : Sub F F') (hA : ∀ k p, k < n → A[k]? = some p → A'[k]? = some p) (hH : H' p = H p) : ∀ {o : OD}, inO n o = true → OkO K ⟨F, A⟩ H p o → OkO K ⟨F', A'⟩ H' p o
  | .lst _, hn, ⟨vs, h, q⟩ => ⟨vs, hH.trans h, evEs_cut hF hA hn q⟩
  | .dic _, hn, ⟨ws, h, q⟩ => ⟨ws, hH.trans h, evKv_cut hF hA hn q⟩
  | .ins _ _, hn, ⟨dx, ws, h, f, q⟩ => ⟨dx, ws, hH.trans h, hF _ _ f, evFs_cut hF hA hn q⟩
  | .gone, _, _ => trivial
theorem take_get {α : Type} {l : List α} {n k : Nat} {x : α} (h : (l.take n)[k]? = some x) : k < n ∧ l[k]? = some x := by
  by_cases hk : k < n
  · rw [List.getElem?_take_of_lt hk] at h
    exact ⟨hk, h⟩
  · rw [List.getElem?_eq_none (by rw [List.length_take]; omega)] at h
    cases h
section
variable {K : PySem.W.Frag} {W : Wd} {S S' : Sd} {m m' : Mm} {H H' : Hp} {n : Nat}
/-- the first n things go to the callee -/
theorem Rep.part (R : Rep K W S m H) (hn : n ≤ m.length) (hc : (m.take n).all (inO n) = true) : Rep K ⟨H, S.A.take n, S.F⟩ ⟨S.F, S.A.take n⟩ (m.take n) H := by
  have hA : ∀ k p, k < n → S.A[k]? = some p → (S.A.take n)[k]? = some p := fun k p hk h => by
    rw [List.getElem?_take_of_lt hk]
    exact h
  refine ⟨?_, R.nd.sublist (List.take_sublist _ _), R.sub, fun k p o hk hm hd => ?_, fun q hq => R.live q (List.mem_of_mem_take hq), fun k p o hk hm => ?_, fun _ _ e _ => e, fun _ h => Or.inl h, fun _ _ e => Or.inl e, List.prefix_refl _⟩
  · show (S.A.take n).length = (m.take n).length
    rw [List.length_take, List.length_take, R.len]
  · exact R.off k p o (take_get hk).2 (take_get hm).2 hd
  · have ho : inO n o = true := by
      have := List.all_eq_true.mp hc o (List.mem_of_getElem? hm)
      exact this
    exact okO_cut (Sub.refl _) hA rfl ho (R.ok k p o (take_get hk).2 (take_get hm).2)
/-- .. and come back -/
theorem Rep.join (R : Rep K W S m H) (hn : n ≤ m.length) (R' : Rep K ⟨H, S.A.take n, S.F⟩ S' m' H') (l : Le ⟨S.F, S.A.take n⟩ S') (hc : (m'.take n).all (inO n) = true) :
    Rep K W ⟨S'.F, S.A⟩ (m'.take n ++ m.drop n) H' ∧ Le S ⟨S'.F, S.A⟩ := by
  have lA : n ≤ S.A.length := by rw [R.len]; exact hn
  have ltA : (S.A.take n).length = n := by rw [List.length_take]; omega
  have lm' : n ≤ m'.length := by
    rw [← R'.len]
    have h1 := l.a.length_le
    have h2 : (S.A.take n).length ≤ S'.A.length := h1
    omega
  have ltm : (m'.take n).length = n := by rw [List.length_take]; omega
  have preS : ∀ (k : Nat) (p : Addr), k < n → S'.A[k]? = some p → S.A[k]? = some p := fun k p hk h => by
    obtain ⟨t, e⟩ := l.a
    have e' : S.A.take n ++ t = S'.A := e
    rw [← e', List.getElem?_append_left (by rw [ltA]; exact hk), List.getElem?_take_of_lt hk] at h
    exact h
  have preS2 : ∀ (k : Nat) (p : Addr), k < n → S.A[k]? = some p → S'.A[k]? = some p := fun k p hk h => by
    refine pre_get l.a ?_
    show (S.A.take n)[k]? = some p
    rw [List.getElem?_take_of_lt hk]
    exact h
  have l2 : Le S ⟨S'.F, S.A⟩ := ⟨l.f, List.prefix_refl _⟩
  have fresh : ∀ q, q ∈ S.A → q ∉ S.A.take n → ∀ o, S'.F q = some o → S.F q = some o := fun q hq hn o e => by
    rcases R'.fnew q o e with z | z | z
    · exact z
    · exact absurd z (R.live q hq)
    · exact absurd z hn
  have split : ∀ (k : Nat) (q : Addr) (o : OD), S.A[k]? = some q → (m'.take n ++ m.drop n)[k]? = some o → (k < n ∧ m'[k]? = some o) ∨ (q ∉ S.A.take n ∧ m[k]? = some o) := fun k q o hk hm => by
    by_cases hkn : k < n
    · rw [List.getElem?_append_left (by rw [ltm]; exact hkn), List.getElem?_take_of_lt hkn] at hm
      exact Or.inl ⟨hkn, hm⟩
    · rw [List.getElem?_append_right (by rw [ltm]; omega), ltm, List.getElem?_drop] at hm
      have e : n + (k - n) = k := by omega
      rw [e] at hm
      refine Or.inr ⟨fun z => ?_, hm⟩
      obtain ⟨j, hj⟩ := List.getElem?_of_mem z
      obtain ⟨h1, h2⟩ := take_get hj
      have : j = k := (List.getElem?_inj (List.getElem?_eq_some_iff.mp h2).1 R.nd).mp (h2.trans hk.symm)
      omega
  have there : ∀ q, q ∈ S.A → q ∉ S.A.take n → H' q = H q := fun q hq hn => by
    cases e : H q with
    | none => exact absurd e (R.live q hq)
    | some o => exact R'.kept q o e hn
  refine ⟨⟨?_, R.nd, R'.sub, fun k q o hk hm hd => ?_, fun q hq => ?_, fun k q o hk hm => ?_, fun a o e na => ?_, R.mine, fun a o e => ?_, R.pre⟩, l2⟩
  · rw [List.length_append, ltm, List.length_drop]
    show S.A.length = _
    rw [R.len]
    omega
  · rcases split k q o hk hm with ⟨h1, h2⟩ | ⟨h1, h2⟩
    · exact R'.off k q o (preS2 k q h1 hk) h2 hd
    · cases e : S'.F q with
      | none => rfl
      | some u =>
        have := fresh q (List.mem_of_getElem? hk) h1 u e
        rw [R.off k q o hk h2 hd] at this
        cases this
  · by_cases hm : q ∈ S.A.take n
    · exact R'.live q (l.a.subset hm)
    · rw [there q hq hm]
      exact R.live q hq
  · rcases split k q o hk hm with ⟨h1, h2⟩ | ⟨h1, h2⟩
    · have hi : inO n o = true := by
        have hm2 : (m'.take n)[k]? = some o := by
          rw [List.getElem?_take_of_lt h1]
          exact h2
        exact List.all_eq_true.mp hc o (List.mem_of_getElem? hm2)
      exact okO_cut (Sub.refl _) preS rfl hi (R'.ok k q o (preS2 k q h1 hk) h2)
    · exact OkO.mono l2 (there q (List.mem_of_getElem? hk) h1) (R.ok k q o hk h2)
  · have e1 := R.kept a o e na
    refine R'.kept a o e1 fun z => ?_
    rcases R.mine a (List.mem_of_mem_take z) with q | q
    · exact na q
    · rw [q] at e
      cases e
  · rcases R'.fnew a o e with z | z | z
    · exact R.fnew a o z
    · exact Or.inr (Or.inl (R.fresh0 z))
    · rcases R.mine a (List.mem_of_mem_take z) with q | q
      · exact Or.inr (Or.inr q)
      · exact Or.inr (Or.inl q)
end
/-- a call: the first n things of the ledger go along (n = 0: a def of data) -/
theorem toSp_of {K : PySem.W.Frag} {k n : Nat} {ds : DSp} {Xe : XK} {W : Wd} {S1 : Sd} {m1 : Mm} {H1 : Hp} {vs : List V} {es : List E} {Q : E → Mm → Prop} {R : VK} (r1 : Rep K W S1 m1 H1) (er : EvEs K S1 vs es)
    (hk : es.length = k) (hn : n ≤ m1.length) (hc : (m1.take n).all (inO n) = true) (he : es.all (inE n) = true) (hd : ds es (m1.take n) fun e m2 => onD e fun d => (m2.take n).all (inO n) = true ∧ Q (.dat d) (m2.take n ++ m1.drop n))
    (kk : ∀ v H' S' e m', Rep K W S' m' H' → Le S1 S' → EvE K S' v e → Q e m' → R v H') : toSp K k ds vs H1 R Xe := by
  have hA : ∀ (k : Nat) (p : Addr), k < n → S1.A[k]? = some p → (S1.A.take n)[k]? = some p := fun k p hk h => by
    rw [List.getElem?_take_of_lt hk]
    exact h
  refine ⟨by rw [EvEs.length er]; exact hk, ⟨S1.F, S1.A.take n⟩, es, m1.take n, _, r1.part hn hc, evEs_cut (Sub.refl _) hA he er, hd, fun v H2 S2 e m2 r2 l2 ev q2 => ?_⟩
  obtain ⟨d, rfl, q3⟩ := onD_of q2
  obtain ⟨r3, l3⟩ := r1.join hn r2 l2 q3.1
  exact kk v H2 _ (.dat d) _ r3 l3 ev q3.2
theorem snd_call {K : PySem.W.Frag} {k n : Nat} {ds : DSp} {ta : TA} {da : DTA} {Xe : XK} (h : SndA K ta da) : Snd K (tCall (toSp K k ds) [] Xe ta) (fun g m Q => da g m fun es m1 => es.length = k ∧ n ≤ m1.length ∧ (m1.take n).all (inO n) = true ∧ es.all (inE n) = true ∧
    ds es (m1.take n) fun e m2 => onD e fun d => (m2.take n).all (inO n) = true ∧ Q (.dat d) (m2.take n ++ m1.drop n)) := by
  intro W S g m σ H Q R r0 s hq kk
  refine h W S g m σ H _ _ r0 s hq fun vs H1 S1 es m1 r1 l1 er q1 => ?_
  obtain ⟨hk, hn, hc, he, hd⟩ := q1
  show toSp K k ds (vs ++ []) H1 R Xe
  rw [List.append_nil]
  exact toSp_of r1 er hk hn hc he hd fun v H2 S2 e m2 r2 l2 => kk v H2 S2 e m2 r2 (l1.trans l2)
theorem snd_callW {K : PySem.W.Frag} {k : Nat} {ds : DSp} {ta : TA} {da : DTA} {Xe : XK} (h : SndA K ta da) : Snd K (tCall (toSp K k ds) [] Xe ta) (fun g m Q => da g m fun es m1 => es.length = k ∧ ds es m1 Q) := by
  intro W S g m σ H Q R r0 s hq kk
  refine h W S g m σ H _ _ r0 s hq fun vs H1 S1 es m1 r1 l1 er q1 => ?_
  obtain ⟨hk, hd⟩ := q1
  show toSp K k ds (vs ++ []) H1 R Xe
  rw [List.append_nil]
  exact ⟨by rw [EvEs.length er]; exact hk, S1, es, m1, Q, r1.enter, er, hd, fun v H2 S2 e m2 r2 l2 ev q2 => kk v H2 S2 e m2 (r1.back (Sub.refl _) r2) (l1.trans l2) ev q2⟩
section
variable {X : Cx} {k n : Nat} {f : Addr} {fd : FuncData} {ps ks : List Str} {ds : DSp} {x : Str} {p pos : Pos} {e : Expr} {es : List Expr} {kws : List Keyword} {t tk : DTA}
def dCallN (k n : Nat) (ds : DSp) (ta : DTA) : DTE := fun g m Q => ta g m fun es m1 => es.length = k ∧ n ≤ m1.length ∧ (m1.take n).all (inO n) = true ∧ es.all (inE n) = true ∧
    ds es (m1.take n) fun e m2 => onD e fun d => (m2.take n).all (inO n) = true ∧ Q (.dat d) (m2.take n ++ m1.drop n)
def dCallA (k : Nat) (ds : DSp) (ta : DTA) : DTE := fun g m Q => ta g m fun es m1 => es.length = k ∧ ds es m1 Q
theorem d_call (n : Nat) (F : FnD X.prog X.w X.K X.mg X.base k f fd ps ds) (hG : X.A.guards = some []) (hr : Room k X.A) (hm : X.mg x = some (.ref f)) (hk : PySem.W.keepIn X.K (.ref f) = true) (hb : Binds X.K fd ps [])
    (ha : DA X (e :: es) t) (hg : Gl X x := by rfl) (hdb : (x == ("__debug__" : Str)) = false := by decide)
    (he : starEach (e :: es) X.env = (false, eval e X.env) :: starEach es X.env := by rfl) (hpl : (backTo pos (starEach es X.env)).any (·.1) = false := by rfl) : DE X (.Call (.Name x p) (e :: es) [] pos) (dCallN ps.length n ds t) := by
  obtain ⟨_, pa, sa⟩ := ha.ex
  exact ⟨_, pe_callG F hG hr hm hk hb .nil pass0 pa hg hdb he hpl, snd_call sa⟩
theorem d_call0 (n : Nat) (F : FnD X.prog X.w X.K X.mg X.base k f fd ps ds) (hG : X.A.guards = some []) (hr : Room k X.A) (hm : X.mg x = some (.ref f)) (hk : PySem.W.keepIn X.K (.ref f) = true) (hb : Binds X.K fd ps [])
    (hg : Gl X x := by rfl) (hdb : (x == ("__debug__" : Str)) = false := by decide) : DE X (.Call (.Name x p) [] [] pos) (dCallN ps.length n ds dNil) := by
  obtain ⟨_, _, sa⟩ := (da_nil (X := X)).ex
  exact ⟨_, pe_callG0 F hG hr hm hk hb .nil pass0 hg hdb, snd_call (fun W S g m σ H Q R r0 sl hq k => k [] H S [] m r0 (Le.refl S) .nil hq)⟩
theorem d_callW (F : FnD X.prog X.w X.K X.mg X.base k f fd ps ds) (hG : X.A.guards = some []) (hr : Room k X.A) (hm : X.mg x = some (.ref f)) (hk : PySem.W.keepIn X.K (.ref f) = true) (hb : Binds X.K fd ps [])
    (ha : DA X (e :: es) t) (hg : Gl X x := by rfl) (hdb : (x == ("__debug__" : Str)) = false := by decide)
    (he : starEach (e :: es) X.env = (false, eval e X.env) :: starEach es X.env := by rfl) (hpl : (backTo pos (starEach es X.env)).any (·.1) = false := by rfl) : DE X (.Call (.Name x p) (e :: es) [] pos) (dCallA ps.length ds t) := by
  obtain ⟨_, pa, sa⟩ := ha.ex
  exact ⟨_, pe_callG F hG hr hm hk hb .nil pass0 pa hg hdb he hpl, snd_callW sa⟩
/-- keyword arguments, data alone -/
structure DK (X : Cx) (kws : List Keyword) (t : DTA) : Prop where
  ex : ∃ te, PK X kws te ∧ SndA X.K te t
variable {kpos : Pos} {nm : Option Str} {te : DTE}
theorem dk_nil : DK X [] dNil := ⟨_, pk_nil, fun W S g m σ H Q R r0 sl hq k => k [] H S [] m r0 (Le.refl S) .nil hq⟩
theorem dk_cons (h : DE X e te) (h' : DK X kws tk) : DK X (⟨nm, e, kpos⟩ :: kws) (dCons te tk) := by
  obtain ⟨_, p, s⟩ := h.ex
  obtain ⟨_, p', s'⟩ := h'.ex
  refine ⟨_, pk_cons p p', fun W S g m σ H Q R r0 sl hq k => ?_⟩
  refine s W S g m σ H _ _ r0 sl hq fun x H1 S1 a m1 r1 l1 ea q1 => ?_
  exact s' W S1 g m1 σ H1 _ _ r1 (sl.mono l1) q1 fun vs H2 S2 es m2 r2 l2 er q2 => k (x :: vs) H2 S2 (a :: es) m2 r2 (l1.trans l2) (.cons (EvE.mono l2 ea) er) q2
/-- the same of values, of plain ones and of plain machine's: positional us and keyword ws in the parameters' order -/
structure KB (K : PySem.W.Frag) (fd : FuncData) (ps ks : List Str) (G : {α : Type} → List α → List α → List α) : Prop where
  kb : KBinds K fd ps ks (fun a b => G a b) (fun a b => G a b)
  rel : ∀ (S : Sd) {vs zs : List V} {es fs : List E}, EvEs K S vs es → EvEs K S zs fs → EvEs K S (G vs zs) (G es fs)
def dCallK (G : {α : Type} → List α → List α → List α) (k n : Nat) (ds : DSp) (ta tk : DTA) : DTE := fun g m Q => ta g m fun es m1 => tk g m1 fun fs m2 => (G es fs).length = k ∧ n ≤ m2.length ∧ (m2.take n).all (inO n) = true ∧ (G es fs).all (inE n) = true ∧
    ds (G es fs) (m2.take n) fun e m3 => onD e fun d => (m3.take n).all (inO n) = true ∧ Q (.dat d) (m3.take n ++ m2.drop n)
theorem d_callK (n : Nat) {G : {α : Type} → List α → List α → List α} (F : FnD X.prog X.w X.K X.mg X.base k f fd ps ds) (hG : X.A.guards = some []) (hr : Room k X.A) (hm : X.mg x = some (.ref f)) (hk : PySem.W.keepIn X.K (.ref f) = true) (hb : KB X.K fd ps ks G)
    (ha : DA X (e :: es) t) (hkw : DK X kws tk) (hg : Gl X x := by rfl) (hall : (backToKw pos (keywordEach kws X.env)).all (·.1.isSome) = true := by rfl) (hks : (backToKw pos (keywordEach kws X.env)).filterMap (·.1) = ks := by rfl)
    (hdb : (x == ("__debug__" : Str)) = false := by decide) (he : starEach (e :: es) X.env = (false, eval e X.env) :: starEach es X.env := by rfl)
    (hpl : ((backTo pos (starEach (e :: es) X.env)).any (·.1) || (backToKw pos (keywordEach kws X.env)).any (·.1.isNone)) = false := by rfl) :
    DE X (.Call (.Name x p) (e :: es) kws pos) (dCallK G ps.length n ds t tk) := by
  obtain ⟨_, pa, sa⟩ := ha.ex
  obtain ⟨_, pk, sk⟩ := hkw.ex
  refine ⟨_, pe_callKG F hG hr hm hk hb.kb pass0 pa pk hg hall hks hdb he hpl, fun W S g m σ H Q R r0 sl hq kk => ?_⟩
  refine sa W S g m σ H _ _ r0 sl hq fun vs H1 S1 es m1 r1 l1 er q1 => ?_
  refine sk W S1 g m1 σ H1 _ _ r1 (sl.mono l1) q1 fun zs H2 S2 fs m2 r2 l2 ez q2 => ?_
  have ev := hb.rel S2 (EvEs.mono l2 er) ez
  obtain ⟨hk, hn, hc, he, hd⟩ := q2
  exact toSp_of r2 ev hk hn hc he hd fun v H3 S3 e m3 r3 l3 => kk v H3 S3 e m3 r3 ((l1.trans l2).trans l3)
end
end DL
/-! DLd: the ledger frozen; for loops; comprehensions. -/
namespace DL
open PySem PySem.Spec PyProof.Rows L2

/-! ### what is walked -/
abbrev DTI := Gm → Mm → (List PyData → Mm → Prop) → Prop
/-- J gives these data, one by one, then stops, in any world -/
def Yld (K : PySem.W.Frag) (J : It) (S : Sd) (items : List PyData) : Prop := ∀ (W : Wd) (S1 : Sd) (m1 : Mm) (H1 : Hp), Le S S1 → Rep K W S1 m1 H1 →
  (∀ i d, items[i]? = some d → J.go i H1 ∧ ∀ x H2, J.yld i H1 x H2 → ∃ S2, Rep K W S2 m1 H2 ∧ Le S1 S2 ∧ Dv K S2.F x d) ∧ J.stop items.length H1
def SndI (K : PySem.W.Frag) (wi : TI) (ti : DTI) : Prop := ∀ (W : Wd) (S : Sd) (g : Gm) (m : Mm) (σ : L2.St) (H : Hp) (Q : List PyData → Mm → Prop) (R : It → Hp → Prop), Rep K W S m H → Sl K S σ g → ti g m Q →
  (∀ J H' S' items m', Rep K W S' m' H' → Le S S' → Yld K J S' items → Q items m' → R J H') → wi σ H R
structure DI (X : Cx) (tg iter : Expr) (ti : DTI) : Prop where
  ex : ∃ wi, PI X tg iter wi ∧ SndI X.K wi ti
section
variable {X : Cx} {tg e : Expr} {te : DTE}
def onLst : E → (List PyData → Prop) → Prop
  | .dat (.list ds), Q => Q ds
  | _, _ => False
theorem onLst_of {e : E} {Q : List PyData → Prop} (h : onLst e Q) : ∃ ds, e = .dat (.list ds) ∧ Q ds := by
  match e, h with
  | .dat (.list ds), h => exact ⟨ds, rfl, h⟩
theorem dv_lst {K : PySem.W.Frag} {F : Hp} {v : V} {ds : List PyData} (h : Dv K F v (.list ds)) : ∃ a xs, v = .ref a ∧ F a = some (.lst xs) ∧ DvAll K F xs ds := by
  cases h with
  | lst h t => exact ⟨_, _, rfl, h, t⟩
theorem dv_tup {K : PySem.W.Frag} {F : Hp} {v : V} {ds : List PyData} (h : Dv K F v (.tuple ds)) : ∃ a xs, v = .ref a ∧ SqT K F a xs ∧ DvAll K F xs ds := by
  cases h with
  | tup h t => exact ⟨_, _, rfl, h, t⟩
def diL (te : DTE) : DTI := fun g m Q => te g m fun e m1 => onLst e fun ds => Q ds m1
def diT (te : DTE) : DTI := fun g m Q => te g m fun e m1 => onTup e fun ds => Q ds m1
theorem yld_list {K : PySem.W.Frag} {S : Sd} {a : Addr} {xs : List V} {ds : List PyData} (h : SqL K S.F a xs) (t : DvAll K S.F xs ds) : Yld K (Itl K a) S ds := by
  intro W S1 m1 H1 l r
  have h1 : SqL K H1 a xs := r.sub.sl (l.f.sl h)
  refine ⟨fun i d hd => ?_, xs, h1, by rw [t.length]; exact Nat.le_refl _⟩
  obtain ⟨v, hv, rv⟩ := DvAll.get' t hd
  refine ⟨⟨xs, v, h1, hv⟩, fun x H2 y => ?_⟩
  obtain ⟨e, y⟩ := y
  subst e
  have : x = v := Option.some.inj ((y xs h1).symm.trans hv)
  subst this
  exact ⟨S1, r, Le.refl _, Dv.mono l.f rv⟩
theorem yld_tup {K : PySem.W.Frag} {S : Sd} {a : Addr} {xs : List V} {ds : List PyData} (h : SqT K S.F a xs) (t : DvAll K S.F xs ds) : Yld K (Itt K a) S ds := by
  intro W S1 m1 H1 l r
  have h1 : SqT K H1 a xs := r.sub.st (l.f.st h)
  refine ⟨fun i d hd => ?_, xs, h1, by rw [t.length]; exact Nat.le_refl _⟩
  obtain ⟨v, hv, rv⟩ := DvAll.get' t hd
  refine ⟨⟨xs, v, h1, hv⟩, fun x H2 y => ?_⟩
  obtain ⟨e, y⟩ := y
  subst e
  have : x = v := Option.some.inj ((y xs h1).symm.trans hv)
  subst this
  exact ⟨S1, r, Le.refl _, Dv.mono l.f rv⟩
theorem di_list (h : DE X e te) : DI X tg e (diL te) := by
  obtain ⟨_, p, s⟩ := h.ex
  refine ⟨_, pi_list p, fun W S g m σ H Q R r0 sl hq k => ?_⟩
  refine s W S g m σ H _ _ r0 sl hq fun v H1 S1 e m1 r1 l1 ev q1 => ?_
  obtain ⟨ds, rfl, q2⟩ := onLst_of q1
  obtain ⟨a, xs, rfl, h, t⟩ := dv_lst ev
  exact ⟨a, rfl, ⟨xs, Or.inl (Or.inl (r1.sub _ _ h))⟩, k _ H1 S1 ds m1 r1 l1 (yld_list (Or.inl (Or.inl h)) t) q2⟩
theorem di_tup (h : DE X e te) : DI X tg e (diT te) := by
  obtain ⟨_, p, s⟩ := h.ex
  refine ⟨_, pi_tup p, fun W S g m σ H Q R r0 sl hq k => ?_⟩
  refine s W S g m σ H _ _ r0 sl hq fun v H1 S1 e m1 r1 l1 ev q1 => ?_
  obtain ⟨ds, rfl, q2⟩ := onTup_of q1
  obtain ⟨a, xs, rfl, h, t⟩ := dv_tup ev
  exact ⟨a, rfl, ⟨xs, r1.sub.st h⟩, k _ H1 S1 ds m1 r1 l1 (yld_tup h t) q2⟩
/-- lo, lo + 1, .. -/
def rangeD (lo : Int) (n : Nat) : List PyData := (List.range n).map fun (i : Nat) => .int (lo + (i : Int))
theorem rangeD_len (lo : Int) (n : Nat) : (rangeD lo n).length = n := by unfold rangeD; rw [List.length_map, List.length_range]
theorem rangeD_get {lo : Int} {n i : Nat} {d : PyData} (h : (rangeD lo n)[i]? = some d) : i < n ∧ d = .int (lo + i) := by
  unfold rangeD at h
  rw [List.getElem?_map] at h
  by_cases hi : i < n
  · rw [List.getElem?_range hi] at h
    exact ⟨hi, (Option.some.inj h).symm⟩
  · rw [List.getElem?_eq_none (by rw [List.length_range]; omega)] at h
    cases h
theorem yld_range {K : PySem.W.Frag} {S : Sd} (lo : Int) (n : Nat) : Yld K (Itr lo n) S (rangeD lo n) := by
  intro W S1 m1 H1 l r
  refine ⟨fun i d hd => ?_, by rw [rangeD_len]; exact Nat.le_refl n⟩
  obtain ⟨hi, rfl⟩ := rangeD_get hd
  refine ⟨hi, fun x H2 y => ?_⟩
  obtain ⟨e, y⟩ := y
  subst e
  subst y
  exact ⟨S1, r, Le.refl _, .int _⟩
def diR1 (ta : DTA) : DTI := fun g m Q => ta g m fun es m1 => allD es fun ds => match ds with
  | [.int j] => (-(2 ^ 62) ≤ j ∧ j < 2 ^ 62) ∧ Q (rangeD 0 j.toNat) m1
  | _ => False
def diR2 (ta : DTA) : DTI := fun g m Q => ta g m fun es m1 => allD es fun ds => match ds with
  | [.int i, .int j] => (-(2 ^ 62) ≤ i ∧ i < 2 ^ 62 ∧ -(2 ^ 62) ≤ j ∧ j < 2 ^ 62) ∧ Q (rangeD i (j - i).toNat) m1
  | _ => False
theorem di_range1 {a : Expr} {ta : DTA} {p pos : Pos} (hm : X.mg "range" = none) (h : DA X [a] ta) (hg : Gl X "range" := by rfl) (hs : starEach [a] X.env = [(false, eval a X.env)] := by rfl) : DI X tg (.Call (.Name "range" p) [a] [] pos) (diR1 ta) := by
  obtain ⟨_, pa, s⟩ := h.ex
  refine ⟨_, pi_range1 hg hm pa hs, fun W S g m σ H Q R r0 sl hq k => ?_⟩
  refine s W S g m σ H _ _ r0 sl hq fun vs H1 S1 es m1 r1 l1 ev q1 => ?_
  obtain ⟨ds, rfl, q2⟩ := allD_of q1
  match ds, vs, evs_dat ev, q2 with
  | [.int j], [_], .cons h .nil, q2 =>
    cases dv_int h
    exact ⟨j, rfl, q2.1.1, q2.1.2, k _ H1 S1 _ m1 r1 l1 (yld_range 0 _) q2.2⟩
theorem di_range2 {a b : Expr} {ta : DTA} {p pos : Pos} (hm : X.mg "range" = none) (h : DA X [a, b] ta) (hg : Gl X "range" := by rfl) (hs : starEach [a, b] X.env = [(false, eval a X.env), (false, eval b X.env)] := by rfl) (hs2 : starEach [b] X.env = [(false, eval b X.env)] := by rfl) :
    DI X tg (.Call (.Name "range" p) [a, b] [] pos) (diR2 ta) := by
  obtain ⟨_, pa, s⟩ := h.ex
  refine ⟨_, pi_range2 hg hm pa hs hs2, fun W S g m σ H Q R r0 sl hq k => ?_⟩
  refine s W S g m σ H _ _ r0 sl hq fun vs H1 S1 es m1 r1 l1 ev q1 => ?_
  obtain ⟨ds, rfl, q2⟩ := allD_of q1
  match ds, vs, evs_dat ev, q2 with
  | [.int i, .int j], [_, _], .cons h (.cons h' .nil), q2 =>
    cases dv_int h
    cases dv_int h'
    exact ⟨i, j, rfl, q2.1, k _ H1 S1 _ m1 r1 l1 (yld_range i _) q2.2⟩

/-! ### for -/
def dFor (ti : DTI) (dg : DTG) (tb : DTS) : DTS := fun D g m => ti g m fun items m1 => ∃ I : Nat → Gm → Mm → Prop, I 0 g m1 ∧
  (∀ i x g m, items[i]? = some x → I i g m → dg (.dat x) g m fun g2 m2 => tb { D with nx := I (i + 1), ct := I (i + 1), bk := D.nx } g2 m2) ∧ ∀ g m, I items.length g m → D.nx g m
theorem ds_for {iter tg : Expr} {body : List Stmt} {ti : DTI} {dg : DTG} {tb : DTS} {pos : Pos} (hp : PassesOwn (model X.prog X.w) X.A X.env X.xe) (hc : X.calm = true) (hi : DI X tg iter ti) (hg : DG X tg dg) (hb : DSs X body tb)
    (hs : ∀ x, foldedSetIterable iter X.env x = pure x := by intro _; rfl) : DS X (.For tg iter body [] pos) (dFor ti dg tb) := by
  obtain ⟨_, pi, si⟩ := hi.ex
  obtain ⟨_, pg, sg⟩ := hg.ex
  obtain ⟨_, pb, sb⟩ := hb.ex
  refine ⟨_, ps_for hp hc pi pg pb hs, fun W S g m σ H D R r0 sl hq k => ?_⟩
  refine si W S g m σ H _ _ r0 sl hq fun J H1 S1 items m1 r1 l1 y1 q1 => ?_
  obtain ⟨I, i0, turn, fin⟩ := q1
  refine ⟨fun i n σ H => n = items.length - i ∧ i ≤ items.length ∧ ∃ S2 g m, Rep X.K W S2 m H ∧ Le S1 S2 ∧ Sl X.K S2 σ g ∧ I i g m, ⟨_, rfl, Nat.zero_le _, S1, g, m1, r1, Le.refl _, sl.mono l1, i0⟩, ?_⟩
  rintro i n σ H ⟨rfl, hi, S2, g, m, r2, l2, sl2, i2⟩
  obtain ⟨ygo, yst⟩ := y1 W S2 m H l2 r2
  have l02 := l1.trans l2
  by_cases hlt : i < items.length
  · obtain ⟨go, yy⟩ := ygo i items[i] (List.getElem?_eq_getElem hlt)
    refine Or.inr ⟨go, fun σ' H' => ∃ S2 g m, Rep X.K W S2 m H' ∧ Le S1 S2 ∧ Sl X.K S2 σ' g ∧ I (i + 1) g m, fun σ' H' n => ⟨items.length - (i + 1), by omega, rfl, hlt, n⟩, fun x H3 hy => ?_⟩
    obtain ⟨S3, r3, l3, ex⟩ := yy x H3 hy
    refine sg W S3 g m σ H3 x (.dat items[i]) _ _ r3 (sl2.mono l3) ex (turn i _ g m (List.getElem?_eq_getElem hlt) i2) fun σ4 H4 S4 g4 m4 r4 l4 sl4 q4 => ?_
    have l14 := (l2.trans l3).trans l4
    have l04 := l1.trans l14
    exact sb W S4 g4 m4 σ4 H4 _ _ r4 sl4 q4 ⟨fun σ' H' S' g' m' a b c d => ⟨S', g', m', a, l14.trans b, c, d⟩, fun v H' S' e m' a b => k.rt v H' S' e m' a (l04.trans b),
      fun σ' H' S' g' m' a b c d => k.nx σ' H' S' g' m' a (l04.trans b) c d, fun σ' H' S' g' m' a b c d => ⟨S', g', m', a, l14.trans b, c, d⟩⟩
  · have e : i = items.length := by omega
    subst e
    exact Or.inl ⟨yst, k.nx σ H S2 g m r2 l02 sl2 (fin g m i2)⟩

/-! ### comprehensions -/
def wipeG (g : Gm) : List Nat → Gm
  | [] => g
  | v :: vs => (wipeG g vs).set v none
theorem sl_wipe {K : PySem.W.Frag} {S : Sd} {σ : L2.St} {g : Gm} (h : Sl K S σ g) : ∀ vs : List Nat, Sl K S (wipe σ vs) (wipeG g vs)
  | [] => h
  | v :: vs => by
    unfold wipe wipeG
    exact (sl_wipe h vs).unset v
/-- the target changes the slots vs alone -/
def GOnly (tg : TG) (vs : List Nat) : Prop := ∀ (x : V) (σ : L2.St) (H : Hp) (Q : L2.St → Hp → Prop), tg x (wipe σ vs) H Q → tg x (wipe σ vs) H fun σ2 H2 => wipe σ2 vs = wipe σ vs ∧ Q σ2 H2
theorem gonly1 (i : Nat) : GOnly (gName i) [i] := fun x σ H Q h => by
  refine ⟨?_, h⟩
  show ((σ.set i none).set i (some x)).set i none = σ.set i none
  rw [List.set_set, List.set_set]
theorem set2 {α : Type} (l : List α) (i j : Nat) (a b c d : α) (h : i ≠ j) : ((((l.set j a).set i b).set i c).set j d) = (l.set i c).set j d := by
  rw [List.set_set, List.set_comm _ _ (Ne.symm h), List.set_set]
theorem gonly2 {K : PySem.W.Frag} {i j : Nat} (hij : i ≠ j) : GOnly (gTup K 2 (gCons (gName i) (gCons (gName j) gNil))) [i, j] := fun x σ H Q h => by
  obtain ⟨a, xs, e, hs, hl, v, r, e1, w, r2, e2, e3, q⟩ := h
  refine ⟨a, xs, e, hs, hl, v, r, e1, w, r2, e2, e3, ?_, q⟩
  show (((((σ.set j none).set i none).set i (some v)).set j (some w)).set j none).set i none = (σ.set j none).set i none
  apply List.ext_getElem?
  intro n
  simp only [List.getElem?_set, List.length_set]
  by_cases h1 : i = n <;> by_cases h2 : j = n <;> simp [h1, h2]
/-- a comprehension's target, tests, element: in its block -/
structure CG (X : Cx) (scope : Scope) (tg : Expr) (vs : List Nat) (dg : DTG) : Prop where
  ex : ∃ t, (∀ (s : Shared) (H : Hp) (C : Addr) (cl : List (Str × Addr)) (fp : List Addr), PG (X.blk s H scope (compEnvC scope cl C X.env) fp) tg t) ∧ SndG X.K t dg ∧ GOnly t vs
structure CT (X : Cx) (scope : Scope) (ifs : List Expr) (dt : DTT) : Prop where
  ex : ∃ t, (∀ (s : Shared) (H : Hp) (C : Addr) (cl : List (Str × Addr)) (fp : List Addr), PTs (X.blk s H scope (compEnvC scope cl C X.env) fp) ifs t) ∧ SndT X.K t dt
structure CE' (X : Cx) (scope : Scope) (e : Expr) (te : DTE) : Prop where
  ex : ∃ t, (∀ (s : Shared) (H : Hp) (C : Addr) (cl : List (Str × Addr)) (fp : List Addr), PE (X.blk s H scope (compEnvC scope cl C X.env) fp) e t) ∧ Snd X.K t te
def dLc (ti : DTI) (dg : DTG) (dt : DTT) (te : DTE) (vs : List Nat) : DTE := fun g m Q => ti g m fun items m1 => ∃ I : Nat → List PyData → Mm → Prop, I 0 [] m1 ∧
  (∀ i x acc m, items[i]? = some x → I i acc m → dg (.dat x) (wipeG g vs) m fun g2 m2 => dt g2 m2 fun b m3 => if b = true then te g2 m3 fun e m4 => onD e fun d => acc.length < sizeLine ∧ I (i + 1) (acc ++ [d]) m4 else I (i + 1) acc m3) ∧
  ∀ acc m, I items.length acc m → Q (.dat (.list acc)) m
theorem snd_lc {K : PySem.W.Frag} {wi : TI} {tg : TG} {tt : TT} {tr : TE} {vs : List Nat} {ti : DTI} {dg : DTG} {dt : DTT} {te : DTE} (hi : SndI K wi ti) (hg : SndG K tg dg) (ho : GOnly tg vs) (ht : SndT K tt dt) (he : Snd K tr te) :
    Snd K (tLc wi tg tt tr vs) (dLc ti dg dt te vs) := by
  intro W S g m σ H Q R r0 sl hq k
  refine hi W S g m σ H _ _ r0 sl hq fun J H1 S1 items m1 r1 l1 y1 q1 => ?_
  obtain ⟨I, i0, turn, fin⟩ := q1
  intro D hD
  have h0 := r1.fresh0 hD
  refine ⟨fun i n H => n = items.length - i ∧ i ≤ items.length ∧ ∃ S2 m us acc, Rep K W S2 m H ∧ Le S1 S2 ∧ D ∉ S2.A ∧ S2.F D = none ∧ H D = some (.lst us) ∧ DvAll K S2.F us acc ∧ I i acc m,
    ⟨_, rfl, Nat.zero_le _, S1, m1, [], [], r1.aside (r1.not_mem hD) (r1.freshF hD) h0, Le.refl _, r1.not_mem hD, r1.freshF hD, upd_same, .nil, i0⟩, ?_⟩
  rintro i n H ⟨rfl, hi, S2, m, us, acc, r2, l2, nA, nF, hHD, hus, i2⟩
  by_cases hlt : i < items.length
  · -- a world that begins here
    have r3 := r2.enter
    obtain ⟨ygo, _⟩ := y1 _ S2 m H l2 r3
    obtain ⟨go, yy⟩ := ygo i items[i] (List.getElem?_eq_getElem hlt)
    refine Or.inr ⟨go, fun H' => ∃ S2 m us acc, Rep K W S2 m H' ∧ Le S1 S2 ∧ D ∉ S2.A ∧ S2.F D = none ∧ H' D = some (.lst us) ∧ DvAll K S2.F us acc ∧ I (i + 1) acc m, fun H' n => ⟨items.length - (i + 1), by omega, rfl, hlt, n⟩, fun x H4 hy => ?_⟩
    obtain ⟨S4, r4, l4, ex⟩ := yy x H4 hy
    have sl4 : Sl K S4 (wipe σ vs) (wipeG g vs) := sl_wipe (sl.mono ((l1.trans l2).trans l4)) vs
    have fact : ∀ {S' : Sd} {m' : Mm} {H' : Hp}, Rep K ⟨H, S2.A, S2.F⟩ S' m' H' → D ∉ S'.A ∧ S'.F D = none ∧ H' D = some (.lst us) := fun {S' m' H'} r => by
      refine ⟨fun z => ?_, ?_, r.kept D _ hHD nA⟩
      · rcases r.mine D z with q | q
        · exact nA q
        · have q' : H D = none := q
          rw [hHD] at q'
          cases q'
      · cases e : S'.F D with
        | none => rfl
        | some u =>
          rcases r.fnew D u e with q | q | q
          · have q' : S2.F D = some u := q
            rw [nF] at q'
            cases q'
          · have q' : H D = none := q
            rw [hHD] at q'
            cases q'
          · exact absurd q nA
    refine ho x σ H4 _ (hg _ S4 (wipeG g vs) m (wipe σ vs) H4 x (.dat items[i]) _ _ r4 sl4 ex (turn i _ acc m (List.getElem?_eq_getElem hlt) i2) fun σ5 H5 S5 g5 m5 r5 l5 sl5 q5 => ?_)
    refine ht _ S5 g5 m5 σ5 H5 _ _ r5 sl5 q5 fun b H6 S6 m6 r6 l6 q6 => ?_
    have l46 := (l4.trans l5).trans l6
    cases b with
    | false =>
      obtain ⟨a1, a2, a3⟩ := fact r6
      exact ⟨S6, m6, us, acc, r2.back (Sub.refl _) r6, l2.trans l46, a1, a2, a3, DvAll.mono l46.f hus, q6⟩
    | true =>
      refine he _ S6 g5 m6 σ5 H6 _ _ r6 (sl5.mono l6) q6 fun y H7 S7 e7 m7 r7 l7 ev7 q7 => ?_
      obtain ⟨d, rfl, q8⟩ := onD_of q7
      obtain ⟨a1, a2, a3⟩ := fact r7
      have l27 := l46.trans l7
      exact ⟨us, a3, by rw [hus.length]; exact q8.1, S7, m7, us ++ [y], acc ++ [d], (r2.back (Sub.refl _) r7).aside a1 a2 h0, l2.trans l27, a1, a2, upd_same, DvAll.append (DvAll.mono l27.f hus) (.cons ev7 .nil), q8.2⟩
  · have e : i = items.length := by omega
    subst e
    obtain ⟨_, yst⟩ := y1 W S2 m H l2 r2
    obtain ⟨r3, l3⟩ := r2.known nA nF h0 hHD
    refine Or.inl ⟨yst, k (.ref D) H _ (.dat (.list acc)) m r3 ((l1.trans l2).trans l3) (Dv.lst upd_same (DvAll.mono l3.f hus)) (fin acc m i2)⟩
end
end DL
/-! DLe: operators, subscripts, built-in functions over data. -/
namespace DL
open PySem PySem.Spec PyProof.Rows L2

section
variable {K : PySem.W.Frag} {W : Wd} {S : Sd} {m : Mm} {H : Hp} {R : VK}
/-- a new list that will not change -/
theorem new_lst (r : Rep K W S m H) {vs : List V} {ds : List PyData} (h : DvAll K S.F vs ds) (k : ∀ v H' S' d, Rep K W S' m H' → Le S S' → Dv K S'.F v d → d = .list ds → R v H') : ∀ p, H p = none → R (.ref p) (upd H p (.lst vs)) := fun p hp => by
  obtain ⟨r1, l1⟩ := r.frz (o := .lst vs) hp
  exact k _ _ _ _ r1 l1 (.lst upd_same (DvAll.mono l1.f h)) rfl
theorem new_tup (r : Rep K W S m H) {vs : List V} {ds : List PyData} (h : DvAll K S.F vs ds) (k : ∀ v H' S' d, Rep K W S' m H' → Le S S' → Dv K S'.F v d → d = .tuple ds → R v H') : ∀ p, H p = none → R (.ref p) (upd H p (.tup vs)) := fun p hp => by
  obtain ⟨r1, l1⟩ := r.frz (o := .tup vs) hp
  exact k _ _ _ _ r1 l1 (.tup (Or.inl (Or.inl upd_same)) (DvAll.mono l1.f h)) rfl
end
section
variable {K : PySem.W.Frag}
/-! ### + -/
def fAdd : F2 := fun a b Q => match a, b with
  | .int i, .int j => Q (.int (i + j))
  | .str x, .str y => x.length + y.length ≤ sizeLine ∧ Q (.str (x ++ y))
  | .list xs, .list ys => xs.length + ys.length ≤ sizeLine ∧ Q (.list (xs ++ ys))
  | .tuple xs, .tuple ys => xs.length + ys.length ≤ sizeLine ∧ Q (.tuple (xs ++ ys))
  | _, _ => False
def rStrCat : R2 := fun x y H Q => ∃ i j, x = .str i ∧ y = .str j ∧ i.length + j.length ≤ sizeLine ∧ Q (.str (i ++ j)) H
def rAddA (K : PySem.W.Frag) : R2 := fun x y H Q => (rI0 (fun i j => .int (i + j)) x y H Q ∨ rStrCat x y H Q) ∨ (rCat x y H Q ∨ rCatA K x y H Q)
theorem op_addA {X : Cx} : OpR X (binaryOp .Add) (rAddA X.K) := OpR.or2 (OpR.or2 op_add op_add_str) (OpR.or2 op_cat op_catA)
theorem op2_add : Op2 K (rAddA K) fAdd := by
  intro W S m H x y a b Q R r va vb q k
  match a, b, va, vb, q with
  | .int i, .int j, va, vb, q => exact Or.inl (Or.inl ⟨i, j, vw_int va, vw_int vb, k _ H S _ r (Le.refl S) (.int _) q⟩)
  | .str i, .str j, va, vb, q => exact Or.inl (Or.inr ⟨i, j, vw_str va, vw_str vb, q.1, k _ H S _ r (Le.refl S) (.str _) q.2⟩)
  | .list xs, .list ys, va, vb, q =>
    obtain ⟨a, us, rfl, ha, da⟩ := vw_lst r.sub va
    obtain ⟨b, ws, rfl, hb, db⟩ := vw_lst r.sub vb
    refine Or.inr (Or.inl ⟨a, b, us, ws, rfl, rfl, ha, hb, by rw [da.length, db.length]; exact q.1, new_lst r (da.append db) fun v H' S' d r1 l1 e1 e => k v H' S' d r1 l1 e1 (by rw [e]; exact q.2)⟩)
  | .tuple xs, .tuple ys, va, vb, q =>
    obtain ⟨a, us, rfl, ha, da⟩ := vw_tup r.sub va
    obtain ⟨b, ws, rfl, hb, db⟩ := vw_tup r.sub vb
    have hF : Dv K S.F (.ref a) (.tuple xs) := va.resolve_right fun ⟨_, _, _, _, e, _⟩ => by cases e
    have hF2 : Dv K S.F (.ref b) (.tuple ys) := vb.resolve_right fun ⟨_, _, _, _, e, _⟩ => by cases e
    refine Or.inr (Or.inr ⟨a, b, us, ws, rfl, rfl, ha, hb, by rw [da.length, db.length]; exact q.1, fun e => ?_, fun _ e => ?_, fun _ _ => new_tup r (da.append db) fun v H' S' d r1 l1 e1 e => k v H' S' d r1 l1 e1 (by rw [e]; exact q.2)⟩)
    · subst e
      cases da
      exact k _ H S _ r (Le.refl S) hF2 q.2
    · subst e
      cases db
      have q2 := q.2
      rw [List.append_nil] at q2
      exact k _ H S _ r (Le.refl S) hF q2

/-! ### -, *, //, %, ** -/
def fSub : F2 := fI0 fun i j => .int (i - j)
theorem op2_sub : Op2 K (rI0 fun i j => .int (i - j)) fSub := op2_I0 fun _ _ _ => .int _
def fMod : F2 := fI (fun _ j => 0 < j) fun i j => .int (i % j)
theorem op2_mod : Op2 K (rI (fun _ j => 0 < j) fun i j => .int (i % j)) fMod := op2_I fun _ _ _ => .int _
def fDiv : F2 := fI CDiv fun i j => .int (i / j)
theorem op2_div : Op2 K (rI CDiv fun i j => .int (i / j)) fDiv := op2_I fun _ _ _ => .int _
def fPow : F2 := fI CPow fun i j => .int (i ^ j.toNat)
theorem op2_pow : Op2 K (rI CPow fun i j => .int (i ^ j.toNat)) fPow := op2_I fun _ _ _ => .int _
/-- a text so many times -/
def repS (x : Str) (n : Int) : Str := ⟨(List.replicate n.toNat x.cps.toList).flatten.toArray⟩
theorem foldl_app {α : Type} : ∀ (l : List (Array α)) (a : Array α), l.foldl (· ++ ·) a = a ++ (l.map (·.toList)).flatten.toArray
  | [], a => by simp
  | x :: l, a => by
    rw [List.foldl_cons, foldl_app l]
    apply Array.ext'
    simp
theorem repS_eq (x : Str) (n : Int) : (⟨(List.replicate n.toNat x.cps).foldl (· ++ ·) #[]⟩ : Str) = repS x n := by
  unfold repS
  rw [foldl_app, List.map_replicate]
  simp
def rMulS : R2 := fun x y H Q => ∃ i n, x = .str i ∧ y = .int n ∧ (0 ≤ n ∧ n ≤ 1000000) ∧ i.length * n.toNat ≤ sizeLine ∧ Q (.str (repS i n)) H
theorem op_mulS {X : Cx} : OpR X (binaryOp .Mult) rMulS := by
  intro pins s σ H x y v u Q I rx ry h
  obtain ⟨i, n, rfl, rfl, ⟨h0, h1⟩, hz, q⟩ := h
  obtain ⟨t, rfl⟩ := rx
  obtain ⟨t', rfl⟩ := ry
  have hline : (sizeLine : Nat) = 16777216 := rfl
  by_cases hn : n < 1
  · have e : n = 0 := by omega
    subst e
    refine P.mul_str_none hn (by decide) ⟨.str _, H, I.tok _, ⟨_, rfl⟩, ?_⟩
    have e2 : repS i 0 = Str.empty := by
      unfold repS
      rfl
    rw [← e2]
    exact q
  · refine P.mul_str (by simp only [Bool.or_eq_false_iff, decide_eq_false_iff_not]; omega) (fun _ _ hb => ?_) (fun _ _ => ?_) ?_
    · have a1 : ((2 : Int) ^ 63 - 1) / n ≥ (2 ^ 63 - 1) / 1000000 := by
        apply Int.le_ediv_of_mul_le (by omega)
        have : (2 ^ 63 - 1) / 1000000 * n ≤ (2 ^ 63 - 1) / 1000000 * (1000000 : Int) := Int.mul_le_mul_of_nonneg_left h1 (by decide)
        have z : (2 ^ 63 - 1) / 1000000 * (1000000 : Int) ≤ 2 ^ 63 - 1 := by decide
        omega
      have a2 : ((2 : Int) ^ 63 - 1) / 1000000 > 16777216 := by decide
      have hl : i.length ≤ 16777216 := by
        have h3 : 1 ≤ n.toNat := by omega
        have := Nat.mul_le_mul_left i.length h3
        omega
      omega
    · exact PyProof.Rows.short24 hz
    · rw [if_neg hn]
      by_cases c : (n == 1 || i.length == 0) = true
      · rw [if_pos c]
        refine ⟨.str i, H, I, ⟨t, rfl⟩, ?_⟩
        have e : repS i n = i := by
          rw [Bool.or_eq_true] at c
          rcases c with c | c
          · have e1 : n = 1 := by simpa using c
            subst e1
            unfold repS
            simp
          · have e1 : i.cps.size = 0 := (beq_iff_eq.mp c : i.length = 0)
            unfold repS
            have e2 : i.cps = #[] := Array.eq_empty_of_size_eq_zero e1
            obtain ⟨cps⟩ := i
            have e2' : cps = #[] := e2
            subst e2'
            simp
        rw [e] at q
        exact q
      · rw [if_neg c]
        rw [repS_eq]
        have e1 : (repS i n).length = i.length * n.toNat := by
          unfold repS
          show ((List.replicate n.toNat i.cps.toList).flatten.toArray).size = i.cps.size * n.toNat
          simp [Nat.mul_comm]
        exact ⟨by rw [e1]; exact hz, .str _, H, I.tok _, ⟨_, rfl⟩, q⟩
def fMul : F2 := fun a b Q => match a, b with
  | .int i, .int j => CMul i j ∧ Q (.int (i * j))
  | .str x, .int n => (0 ≤ n ∧ n ≤ 1000000) ∧ x.length * n.toNat ≤ sizeLine ∧ Q (.str (repS x n))
  | .list xs, .int n => (-(2 ^ 63) ≤ n ∧ n < 2 ^ 63) ∧ xs.length * n.toNat ≤ sizeLine ∧ Q (.list (List.replicate n.toNat xs).flatten)
  | _, _ => False
def rMulA : R2 := fun x y H Q => (rI CMul (fun i j => .int (i * j)) x y H Q ∨ rMulS x y H Q) ∨ rRep x y H Q
theorem op_mulA {X : Cx} : OpR X (binaryOp .Mult) rMulA := OpR.or2 (OpR.or2 op_mul op_mulS) op_rep
theorem DvAll.rep {F : Hp} {vs : List V} {ds : List PyData} (h : DvAll K F vs ds) : ∀ n : Nat, DvAll K F (List.replicate n vs).flatten (List.replicate n ds).flatten
  | 0 => .nil
  | n + 1 => by
    rw [List.replicate_succ, List.replicate_succ, List.flatten_cons, List.flatten_cons]
    exact h.append (DvAll.rep h n)
theorem op2_mul : Op2 K rMulA fMul := by
  intro W S m H x y a b Q R r va vb q k
  match a, b, va, vb, q with
  | .int i, .int j, va, vb, q => exact Or.inl (Or.inl ⟨i, j, vw_int va, vw_int vb, q.1, k _ H S _ r (Le.refl S) (.int _) q.2⟩)
  | .str i, .int j, va, vb, q => exact Or.inl (Or.inr ⟨i, j, vw_str va, vw_int vb, q.1, q.2.1, k _ H S _ r (Le.refl S) (.str _) q.2.2⟩)
  | .list xs, .int n, va, vb, q =>
    obtain ⟨a, us, rfl, ha, da⟩ := vw_lst r.sub va
    exact Or.inr ⟨a, n, us, rfl, vw_int vb, ha, q.1.1, q.1.2, by rw [da.length]; exact q.2.1, new_lst r (da.rep n.toNat) fun v H' S' d r1 l1 e1 e => k v H' S' d r1 l1 e1 (by rw [e]; exact q.2.2)⟩

/-! ### comparisons -/
def strLt (x y : Str) : Bool := decide (x.cps.toList < y.cps.toList)
def fLt : F2 := fun a b Q => match a, b with
  | .int i, .int j => Q (.bool (decide (i < j)))
  | .str x, .str y => Q (.bool (strLt x y))
  | _, _ => False
def fLe : F2 := fun a b Q => match a, b with
  | .int i, .int j => Q (.bool (decide (i ≤ j)))
  | .str x, .str y => Q (.bool (!strLt y x))
  | _, _ => False
def fGt : F2 := fun a b Q => match a, b with
  | .int i, .int j => Q (.bool (decide (j < i)))
  | .str x, .str y => Q (.bool (strLt y x))
  | _, _ => False
def fGe : F2 := fun a b Q => match a, b with
  | .int i, .int j => Q (.bool (decide (j ≤ i)))
  | .str x, .str y => Q (.bool (!strLt x y))
  | _, _ => False
def rIS (p : Int → Int → Bool) (q : Str → Str → Bool) : R2 := fun x y H Q => rI0 (fun i j => .bl (p i j)) x y H Q ∨ ∃ i j, x = .str i ∧ y = .str j ∧ Q (.bl (q i j)) H
def fIS (p : Int → Int → Bool) (q : Str → Str → Bool) : F2 := fun a b Q => match a, b with
  | .int i, .int j => Q (.bool (p i j))
  | .str x, .str y => Q (.bool (q x y))
  | _, _ => False
theorem op2_IS {p : Int → Int → Bool} {qs : Str → Str → Bool} : Op2 K (rIS p qs) (fIS p qs) := by
  intro W S m H x y a b Q R r va vb q k
  match a, b, va, vb, q with
  | .int i, .int j, va, vb, q => exact Or.inl ⟨i, j, vw_int va, vw_int vb, k _ H S _ r (Le.refl S) (.bl _) q⟩
  | .str i, .str j, va, vb, q => exact Or.inr ⟨i, j, vw_str va, vw_str vb, k _ H S _ r (Le.refl S) (.bl _) q⟩
theorem op_ltA {X : Cx} : OpR X (compareOp .Lt) (rIS (fun i j => decide (i < j)) fun x y => strLt x y) := OpR.or2 op_lt op_lt_str
theorem op_leA {X : Cx} : OpR X (compareOp .LtE) (rIS (fun i j => decide (i ≤ j)) fun x y => !strLt y x) := OpR.or2 op_le op_le_str
theorem op_gtA {X : Cx} : OpR X (compareOp .Gt) (rIS (fun i j => decide (j < i)) fun x y => strLt y x) := OpR.or2 op_gt op_gt_str
theorem op_geA {X : Cx} : OpR X (compareOp .GtE) (rIS (fun i j => decide (j ≤ i)) fun x y => !strLt x y) := OpR.or2 op_ge op_ge_str
theorem op2_lt : Op2 K (rIS (fun i j => decide (i < j)) fun x y => strLt x y) fLt := op2_IS
theorem op2_le : Op2 K (rIS (fun i j => decide (i ≤ j)) fun x y => !strLt y x) fLe := op2_IS
theorem op2_gt : Op2 K (rIS (fun i j => decide (j < i)) fun x y => strLt y x) fGt := op2_IS
theorem op2_ge : Op2 K (rIS (fun i j => decide (j ≤ i)) fun x y => !strLt x y) fGe := op2_IS
/-- == -/
def fEqN (neg : Bool) : F2 := fun a b Q => match a, b with
  | .int i, .int j => Q (.bool (if neg then !decide (i = j) else decide (i = j)))
  | .str x, .str y => Q (.bool (if neg then !decide (x = y) else decide (x = y)))
  | .bool x, .bool y => Q (.bool (if neg then !decide (x = y) else decide (x = y)))
  | a, b => SeqAt.shaped a = true ∧ SeqAt.shaped b = true ∧ Q (.bool (if neg then !PyData.eqv a b else PyData.eqv a b))
def rEqA (K : PySem.W.Frag) : R2 := fun x y H Q => rEq x y H Q ∨ rEqD K x y H Q
def rNeA (K : PySem.W.Frag) : R2 := fun x y H Q => rNe x y H Q ∨ rNeD K x y H Q
theorem op_eqA {X : Cx} (hu : X.A.units + 64 < cLine) : OpR X (compareOp .Eq) (rEqA X.K) := OpR.or2 op_eq (op_eqD hu)
theorem op_neA {X : Cx} (hu : X.A.units + 64 < cLine) : OpR X (compareOp .NotEq) (rNeA X.K) := OpR.or2 op_ne (op_neD hu)
theorem decV_int (i j : Int) : decide (V.int i = V.int j) = decide (i = j) := by simp
theorem decV_str (i j : Str) : decide (V.str i = V.str j) = decide (i = j) := by simp
theorem decV_bl (i j : Bool) : decide (V.bl i = V.bl j) = decide (i = j) := by simp
theorem op2_eq : Op2 K (rEqA K) (fEqN false) := by
  intro W S m H x y a b Q R r va vb q k
  have deep : SeqAt.shaped a = true → SeqAt.shaped b = true → Q (.bool (PyData.eqv a b)) → rEqA K x y H R := fun h1 h2 q =>
    Or.inr ⟨a, b, vw_dp r.sub va (SeqAt.canLay_of_shaped h1), vw_dp r.sub vb (SeqAt.canLay_of_shaped h2), h1, h2, k _ H S _ r (Le.refl S) (.bl _) q⟩
  unfold fEqN at q
  split at q
  · cases vw_int va
    cases vw_int vb
    refine Or.inl ⟨rfl, ?_⟩
    rw [decV_int]
    exact k _ H S _ r (Le.refl S) (.bl _) q
  · cases vw_str va
    cases vw_str vb
    refine Or.inl ⟨rfl, ?_⟩
    rw [decV_str]
    exact k _ H S _ r (Le.refl S) (.bl _) q
  · cases vw_bl va
    cases vw_bl vb
    refine Or.inl ⟨rfl, ?_⟩
    rw [decV_bl]
    exact k _ H S _ r (Le.refl S) (.bl _) q
  · exact deep q.1 q.2.1 q.2.2
theorem op2_ne : Op2 K (rNeA K) (fEqN true) := by
  intro W S m H x y a b Q R r va vb q k
  have deep : SeqAt.shaped a = true → SeqAt.shaped b = true → Q (.bool (!PyData.eqv a b)) → rNeA K x y H R := fun h1 h2 q =>
    Or.inr ⟨a, b, vw_dp r.sub va (SeqAt.canLay_of_shaped h1), vw_dp r.sub vb (SeqAt.canLay_of_shaped h2), h1, h2, k _ H S _ r (Le.refl S) (.bl _) q⟩
  unfold fEqN at q
  split at q
  · cases vw_int va
    cases vw_int vb
    refine Or.inl ⟨rfl, ?_⟩
    rw [decV_int]
    exact k _ H S _ r (Le.refl S) (.bl _) q
  · cases vw_str va
    cases vw_str vb
    refine Or.inl ⟨rfl, ?_⟩
    rw [decV_str]
    exact k _ H S _ r (Le.refl S) (.bl _) q
  · cases vw_bl va
    cases vw_bl vb
    refine Or.inl ⟨rfl, ?_⟩
    rw [decV_bl]
    exact k _ H S _ r (Le.refl S) (.bl _) q
  · exact deep q.1 q.2.1 q.2.2
/-- in: a sign or a text in a text; a flat datum in a list or a tuple of such -/
def flatD : PyData → Bool
  | .none => true
  | .bool _ => true
  | .int _ => true
  | .str _ => true
  | _ => false
def memD (a : PyData) (ds : List PyData) : Bool := ds.any fun z => PyData.eqv z a
def fIn (neg : Bool) : F2 := fun a b Q => match b with
  | .str z => onS a fun x => Q (.bool (if neg then !(!(Builtin.Str.occurrences z x 0 z.length 1).isEmpty) else !(Builtin.Str.occurrences z x 0 z.length 1).isEmpty))
  | .list ds => flatD a = true ∧ ds.all flatD = true ∧ Q (.bool (if neg then !memD a ds else memD a ds))
  | .tuple ds => flatD a = true ∧ ds.all flatD = true ∧ Q (.bool (if neg then !memD a ds else memD a ds))
  | _ => False
def rInS (neg : Bool) : R2 := fun x y H Q => ∃ i j, x = .str i ∧ y = .str j ∧ Q (.bl (if neg then !(!(Builtin.Str.occurrences j i 0 j.length 1).isEmpty) else !(Builtin.Str.occurrences j i 0 j.length 1).isEmpty)) H
def rInA (K : PySem.W.Frag) (neg : Bool) : R2 := fun x y H Q => DL.rInS neg x y H Q ∨ rIn K neg x y H Q
theorem op_inA {X : Cx} : OpR X (compareOp .In) (rInA X.K false) := OpR.or2 op_in_str op_in_seq
theorem op_niA {X : Cx} : OpR X (compareOp .NotIn) (rInA X.K true) := OpR.or2 op_notin_str op_notIn_seq
theorem flat_v {F : Hp} {v : V} {d : PyData} (h : Dv K F v d) (f : flatD d = true) : flatV v = true := by
  cases h <;> first | rfl | (cases f; done)
theorem flat_eq {F : Hp} {v w : V} {d e : PyData} (h : Dv K F v d) (h' : Dv K F w e) (f : flatD d = true) (f' : flatD e = true) : eqV v w = PyData.eqv d e := by
  cases h <;> first | (cases f; done) | (cases h' <;> first | (cases f'; done) | (simp only [eqV, PyData.eqv]))
theorem flat_all {F : Hp} : ∀ {vs : List V} {ds : List PyData}, DvAll K F vs ds → ds.all flatD = true → vs.all flatV = true
  | _, _, .nil, _ => rfl
  | _, _, .cons h t, f => by
    rw [List.all_cons, Bool.and_eq_true] at f
    rw [List.all_cons, flat_v h f.1, flat_all t f.2]
    rfl
theorem flat_mem {F : Hp} {w : V} {e : PyData} (h' : Dv K F w e) (f' : flatD e = true) : ∀ {vs : List V} {ds : List PyData}, DvAll K F vs ds → ds.all flatD = true → inV w vs = memD e ds
  | _, _, .nil, _ => rfl
  | _, _, .cons h t, f => by
    rw [List.all_cons, Bool.and_eq_true] at f
    have ih := flat_mem h' f' t f.2
    unfold inV memD at ih ⊢
    rw [List.any_cons, List.any_cons, flat_eq h h' f.1 f', ih]
theorem vw_flat {F H : Hp} {v : V} {d : PyData} (h : Vw K F H v d) (f : flatD d = true) : Dv K F v d := by
  rcases h with h | ⟨_, _, _, _, e, _⟩
  · exact h
  · subst e
    cases f
theorem op2_inN (neg : Bool) : Op2 K (rInA K neg) (fIn neg) := by
  intro W S m H x y a b Q R r va vb q k
  match b, vb, q with
  | .str z, vb, q =>
    obtain ⟨i, rfl, q⟩ := onS_of q
    exact Or.inl ⟨i, z, vw_str va, vw_str vb, k _ H S _ r (Le.refl S) (.bl _) q⟩
  | .list ds, vb, q =>
    obtain ⟨b, ws, rfl, hb, db⟩ := vw_lst r.sub vb
    have ha := vw_flat va q.1
    refine Or.inr ⟨b, ws, rfl, Or.inl (Or.inl (Or.inl hb)), flat_v ha q.1, flat_all db q.2.1, ?_⟩
    rw [flat_mem ha q.1 db q.2.1]
    exact k _ H S _ r (Le.refl S) (.bl _) q.2.2
  | .tuple ds, vb, q =>
    obtain ⟨b, ws, rfl, hb, db⟩ := vw_tup r.sub vb
    have ha := vw_flat va q.1
    refine Or.inr ⟨b, ws, rfl, Or.inr hb, flat_v ha q.1, flat_all db q.2.1, ?_⟩
    rw [flat_mem ha q.1 db q.2.1]
    exact k _ H S _ r (Le.refl S) (.bl _) q.2.2
end
end DL
/-! DLf: subscripts, slices, built-in functions and methods, the ledger's stores, comprehensions as expressions. -/
namespace DL
open PySem PySem.Spec PyProof.Rows L2

/-! ### subscripts -/
def lookD : List (Key × E) → Key → Option E
  | [], _ => none
  | (k, e) :: r, x => if k = x then some e else lookD r x
def lookP : List (PyData × PyData) → Key → Option PyData
  | [], _ => none
  | (.int i, e) :: r, x => if Sum.inl i = x then some e else lookP r x
  | (.str i, e) :: r, x => if Sum.inr i = x then some e else lookP r x
  | (_, e) :: r, x => lookP r x
def onKey : PyData → (Key → Prop) → Prop
  | .int i, Q => Q (.inl i)
  | .str s, Q => Q (.inr s)
  | _, _ => False
theorem onKey_of {d : PyData} {Q : Key → Prop} (h : onKey d Q) : ∃ k, d = keyD k ∧ Q k := by
  match d, h with
  | .int i, h => exact ⟨.inl i, rfl, h⟩
  | .str s, h => exact ⟨.inr s, rfl, h⟩
def ixE (m : Mm) (a : E) (y : PyData) (Q : E → Prop) : Prop := match a with
  | .dat (.list ds) => onI y fun i => ∃ d, atI ds i = some d ∧ Q (.dat d)
  | .dat (.tuple ds) => onI y fun i => ∃ d, atI ds i = some d ∧ Q (.dat d)
  | .dat (.str z) => onI y fun i => z.length ≤ sizeLine ∧ ∃ c, atI z.cps.toList i = some c ∧ Q (.dat (.str ⟨#[c]⟩))
  | .dat (.dict kvs) => onKey y fun k => ∃ d, lookP kvs k = some d ∧ Q (.dat d)
  | .loc k => match m[k]? with
    | some (.lst es) => onI y fun i => ∃ e, atI es i = some e ∧ Q e
    | some (.dic kvs) => onKey y fun k => ∃ e, lookD kvs k = some e ∧ Q e
    | _ => False
  | _ => False
def rIxD : R2 := fun x y H Q => ∃ a v, x = .ref a ∧ DGet H a y (some v) ∧ Q v H
theorem ix_dict {X : Cx} (hu : X.A.units + 1 < cLine) : IxR X rIxD := by
  intro value slice pins s σ H x y v u Q I rx ry h hs
  obtain ⟨a, z, rfl, g, q⟩ := h
  cases rx
  exact tail_any (dict_typeIs I g) PySem.F.slot_dict_getitem.lookup (d_getItem hu I g ry fun w' s' I' r' => ⟨z, H, I', r', q⟩) hs
def rIxA (K : PySem.W.Frag) : R2 := fun x y H Q => rIx K x y H Q ∨ rIxD x y H Q
theorem ix_any {X : Cx} (hu : X.A.units + 1 < cLine) : IxR X (rIxA X.K) := ix_seq.or (ix_dict hu)
theorem atI_dv {K : PySem.W.Frag} {F : Hp} {vs : List V} {ds : List PyData} {i : Int} {d : PyData} (h : DvAll K F vs ds) (e : atI ds i = some d) : ∃ v, atI vs i = some v ∧ Dv K F v d := by
  unfold atI at e ⊢
  rw [h.length]
  cases hx : ixN ds.length i with
  | none =>
    rw [hx] at e
    cases e
  | some j =>
    rw [hx] at e
    exact DvAll.get' h e
theorem evs_get {K : PySem.W.Frag} {S : Sd} : ∀ {vs : List V} {es : List E} {j : Nat} {e : E}, EvEs K S vs es → es[j]? = some e → ∃ v, vs[j]? = some v ∧ EvE K S v e
  | _, _, 0, _, .cons h _, e => by
    cases e
    exact ⟨_, rfl, h⟩
  | _, _, j + 1, _, .cons _ t, e => evs_get (j := j) t e
theorem atI_ev {K : PySem.W.Frag} {S : Sd} {vs : List V} {es : List E} {i : Int} {e : E} (h : EvEs K S vs es) (q : atI es i = some e) : ∃ v, atI vs i = some v ∧ EvE K S v e := by
  unfold atI at q ⊢
  rw [EvEs.length h]
  cases hx : ixN es.length i with
  | none =>
    rw [hx] at q
    cases q
  | some j =>
    rw [hx] at q
    exact evs_get h q
theorem look_ev {K : PySem.W.Frag} {S : Sd} : ∀ {ws : List (Key × V)} {kvs : List (Key × E)} {k : Key} {e : E}, EvKv K S ws kvs → lookD kvs k = some e → ∃ v, valV ws k = some v ∧ EvE K S v e
  | [], [], _, _, _, h => nomatch h
  | (k1, v) :: ws, (k2, e2) :: kvs, k, e, .cons hp t, h => by
    have hk : k1 = k2 := hp.1
    subst hk
    have h' : (if k1 = k then some e2 else lookD kvs k) = some e := h
    by_cases c : k1 = k
    · rw [if_pos c] at h'
      cases h'
      refine ⟨v, ?_, hp.2⟩
      unfold valV
      rw [List.find?_cons_of_pos (by simpa using c)]
      rfl
    · rw [if_neg c] at h'
      obtain ⟨v', hv, r⟩ := look_ev t h'
      refine ⟨v', ?_, r⟩
      unfold valV at hv ⊢
      rw [List.find?_cons_of_neg (by simpa using c)]
      exact hv
theorem lookP_dv {K : PySem.W.Frag} {F : Hp} : ∀ {ws : List (Key × V)} {kvs : List (PyData × PyData)} {k : Key} {d : PyData}, DvKv K F ws kvs → lookP kvs k = some d → ∃ v, valV ws k = some v ∧ Dv K F v d
  | [], [], _, _, _, h => nomatch h
  | (k1, v) :: ws, _, k, d, .cons (d := d2) (ds := kvs) hp t, h => by
    have h' : (if k1 = k then some d2 else lookP kvs k) = some d := by
      cases k1 <;> exact h
    by_cases c : k1 = k
    · rw [if_pos c] at h'
      cases h'
      refine ⟨v, ?_, hp⟩
      unfold valV
      rw [List.find?_cons_of_pos (by simpa using c)]
      rfl
    · rw [if_neg c] at h'
      obtain ⟨v', hv, r⟩ := lookP_dv t h'
      refine ⟨v', ?_, r⟩
      unfold valV at hv ⊢
      rw [List.find?_cons_of_neg (by simpa using c)]
      exact hv
theorem dv_key {K : PySem.W.Frag} {F : Hp} {v : V} {k : Key} (h : Dv K F v (keyD k)) : v = kV k := by
  cases k with
  | inl i => exact dv_int h
  | inr s => exact dv_str h
theorem dGet_of {H : Hp} {a : Addr} {kvs : List (Key × V)} {k : Key} {v : V} (e : H a = some (.dK kvs)) (h : valV kvs k = some v) : DGet H a (kV k) (some v) := by
  rw [← h]
  exact DGet.k e
theorem ix_core {K : PySem.W.Frag} {W : Wd} {S : Sd} {m : Mm} {H : Hp} {x y : V} {a : E} {b : PyData} {Q : E → Prop} {R : VK} (r : Rep K W S m H) (ea : EvE K S x a) (eb : Dv K S.F y b) (h : ixE m a b Q) (k : ∀ v e, EvE K S v e → Q e → R v H) : rIxA K x y H R := by
  cases a with
  | scr _ => exact h.elim
  | dat c =>
    have ea' : Dv K S.F x c := ea
    cases ea' with
    | non => exact h.elim
    | bl _ => exact h.elim
    | int _ => exact h.elim
    | str z =>
      obtain ⟨i, rfl, hz, c, hc, q⟩ := onI_of h
      cases dv_int eb
      exact Or.inl (Or.inr (Or.inr ⟨z, i, c, rfl, rfl, hz, hc, k _ (.dat (.str ⟨#[c]⟩)) (Dv.str _) q⟩))
    | lst hf ha =>
      obtain ⟨i, rfl, d, hd, q⟩ := onI_of h
      cases dv_int eb
      obtain ⟨v, hv, rv⟩ := atI_dv ha hd
      exact Or.inl (Or.inl ⟨_, _, i, v, rfl, rfl, Or.inl (Or.inl (r.sub _ _ hf)), hv, k v (.dat d) rv q⟩)
    | tup hf ha =>
      obtain ⟨i, rfl, d, hd, q⟩ := onI_of h
      cases dv_int eb
      obtain ⟨v, hv, rv⟩ := atI_dv ha hd
      exact Or.inl (Or.inr (Or.inl ⟨_, _, i, v, rfl, rfl, r.sub.st hf, hv, k v (.dat d) rv q⟩))
    | dic hf ha =>
      obtain ⟨ky, rfl, d, hd, q⟩ := onKey_of h
      cases dv_key eb
      obtain ⟨v, hv, rv⟩ := lookP_dv ha hd
      exact Or.inr ⟨_, v, rfl, dGet_of (r.sub _ _ hf) hv, k v (.dat d) rv q⟩
  | loc j =>
    obtain ⟨p, hp, hx⟩ := ea
    subst hx
    have h' : (match m[j]? with | some (.lst es) => onI b fun i => ∃ e, atI es i = some e ∧ Q e | some (.dic kvs) => onKey b fun k => ∃ e, lookD kvs k = some e ∧ Q e | _ => False) := h
    split at h'
    · rename_i es hm
      obtain ⟨vs, hH, er⟩ := r.ok j p _ hp hm
      obtain ⟨i, rfl, e, he, q⟩ := onI_of h'
      cases dv_int eb
      obtain ⟨v, hv, rv⟩ := atI_ev er he
      exact Or.inl (Or.inl ⟨_, _, i, v, rfl, rfl, Or.inl (Or.inl hH), hv, k v e rv q⟩)
    · rename_i kvs hm
      obtain ⟨ws, hH, er⟩ := r.ok j p _ hp hm
      obtain ⟨ky, rfl, e, he, q⟩ := onKey_of h'
      cases dv_key eb
      obtain ⟨v, hv, rv⟩ := look_ev er he
      exact Or.inr ⟨_, v, rfl, dGet_of hH hv, k v e rv q⟩
    · exact h'.elim
section
variable {X : Cx} {e1 e2 : Expr} {t1 t2 : DTE} {pos : Pos}
def dIx (ta tb : DTE) : DTE := fun g m Q => ta g m fun a m1 => tb g m1 fun b m2 => onD b fun y => ixE m2 a y fun e => Q e m2
theorem d_ix (hu : X.A.units + 1 < cLine) (ha : DE X e1 t1) (hb : DE X e2 t2) (hs : PlainIx e2 := by exact fun _ _ => rfl) : DE X (.Subscript e1 e2 pos) (dIx t1 t2) := by
  obtain ⟨_, pa, sa⟩ := ha.ex
  obtain ⟨_, pb, sb⟩ := hb.ex
  refine ⟨_, pe_ix (ix_any hu) pa pb hs, fun W S g m σ H Q R r0 sl hq k => ?_⟩
  refine sa W S g m σ H _ _ r0 sl hq fun x H1 S1 a m1 r1 l1 ea q1 => ?_
  refine sb W S1 g m1 σ H1 _ _ r1 (sl.mono l1) q1 fun y H2 S2 b m2 r2 l2 eb q2 => ?_
  obtain ⟨b', rfl, q3⟩ := onD_of q2
  exact ix_core r2 (EvE.mono l2 ea) eb q3 fun v e rv q => k v H2 S2 e m2 r2 (l1.trans l2) rv q

/-! ### slices -/
def cutD {α : Type} (xs : List α) (lo hi : Option Int) : List α := (xs.drop (HT.sIx xs.length 0 lo)).take (HT.sIx xs.length xs.length hi - HT.sIx xs.length 0 lo)
abbrev DTO := Gm → Mm → (Option Int → Mm → Prop) → Prop
def dNoPart : DTO := fun _ m Q => Q none m
def dPart (t : DTE) : DTO := fun g m Q => t g m fun e m1 => onD e fun d => onI d fun i => Q (some i) m1
def SndO (K : PySem.W.Frag) (te : TO) (t : DTO) : Prop := ∀ (W : Wd) (S : Sd) (g : Gm) (m : Mm) (σ : L2.St) (H : Hp) (Q : Option Int → Mm → Prop) (R : Option Int → Hp → Prop), Rep K W S m H → Sl K S σ g → t g m Q →
  (∀ o H' S' m', Rep K W S' m' H' → Le S S' → Q o m' → R o H') → te σ H R
structure DO (X : Cx) (e : Option Expr) (t : DTO) : Prop where
  ex : ∃ te, PO X e te ∧ SndO X.K te t
theorem do_none : DO X none dNoPart := ⟨_, po_none, fun W S g m σ H Q R r0 sl hq k => k none H S m r0 (Le.refl S) hq⟩
theorem do_some (h : DE X e1 t1) : DO X (some e1) (dPart t1) := by
  obtain ⟨_, p, s⟩ := h.ex
  refine ⟨_, po_some p, fun W S g m σ H Q R r0 sl hq k => ?_⟩
  refine s W S g m σ H _ _ r0 sl hq fun x H1 S1 a m1 r1 l1 ea q1 => ?_
  obtain ⟨a', rfl, q2⟩ := onD_of q1
  obtain ⟨i, rfl, q3⟩ := onI_of q2
  exact ⟨i, dv_int ea, k (some i) H1 S1 m1 r1 l1 q3⟩
/-- what a slice makes: of a datum, or of a list of the ledger, or of the script -/
def slE (m : Mm) (a : E) (lo hi : Option Int) (Q : E → Prop) : Prop := match a with
  | .dat (.list ds) => Q (.dat (.list (cutD ds lo hi)))
  | .dat (.tuple ds) => Q (.dat (.tuple (cutD ds lo hi)))
  | .dat (.str z) => z.length ≤ sizeLine ∧ Q (.dat (.str (cutS z lo hi)))
  | .loc k => match m[k]? with
    | some (.lst es) => allD es fun ds => Q (.dat (.list (cutD ds lo hi)))
    | _ => False
  | .scr ns => Q (.dat (.list ((cutD ns lo hi).map .int)))
  | _ => False
def rSlAll (K : PySem.W.Frag) : V → Option Int → Option Int → Hp → VK → Prop := fun x lo hi H Q => (rSlL K x lo hi H Q ∨ rSlA K x lo hi H Q) ∨ rSlS x lo hi H Q
theorem sl_all : SlR X (rSlAll X.K) := (sl_list.or sl_tupA).or sl_str
theorem cut_dv {K : PySem.W.Frag} {F : Hp} {vs : List V} {ds : List PyData} (h : DvAll K F vs ds) (lo hi : Option Int) : DvAll K F (cutV vs lo hi) (cutD ds lo hi) := by
  unfold cutV cutD
  rw [h.length]
  exact (h.drop _).take _
theorem ints_dv {K : PySem.W.Frag} {F : Hp} : ∀ ns : List Int, DvAll K F (ns.map V.int) (ns.map .int)
  | [] => .nil
  | n :: ns => .cons (.int n) (ints_dv ns)
theorem cut_map {α β : Type} (f : α → β) (xs : List α) (lo hi : Option Int) : cutD (xs.map f) lo hi = (cutD xs lo hi).map f := by
  unfold cutD
  rw [List.length_map, List.map_take, List.map_drop]
theorem cut_whole {α : Type} {xs : List α} {lo hi : Option Int} (h : HT.sIx xs.length 0 lo = 0 ∧ HT.sIx xs.length xs.length hi = xs.length) : cutD xs lo hi = xs := by
  unfold cutD
  rw [h.1, h.2, List.drop_zero, Nat.sub_zero, List.take_length]
def dSl (ta : DTE) (tl th : DTO) : DTE := fun g m Q => ta g m fun a m1 => tl g m1 fun lo m2 => th g m2 fun hi m3 => slE m3 a lo hi fun e => Q e m3
theorem d_sl {lo hi : Option Expr} {tl th : DTO} {p2 : Pos} (ha : DE X e1 t1) (hl : DO X lo tl) (hh : DO X hi th) : DE X (.Subscript e1 (.Slice lo hi none p2) pos) (dSl t1 tl th) := by
  obtain ⟨_, pa, sa⟩ := ha.ex
  obtain ⟨_, pl, sL⟩ := hl.ex
  obtain ⟨_, ph, sh⟩ := hh.ex
  refine ⟨_, pe_slice sl_all pa pl ph, fun W S g m σ H Q R r0 sl hq k => ?_⟩
  refine sa W S g m σ H _ _ r0 sl hq fun x H1 S1 a m1 r1 l1 ea q1 => ?_
  refine sL W S1 g m1 σ H1 _ _ r1 (sl.mono l1) q1 fun lo' H2 S2 m2 r2 l2 q2 => ?_
  refine sh W S2 g m2 σ H2 _ _ r2 (sl.mono (l1.trans l2)) q2 fun hi' H3 S3 m3 r3 l3 q3 => ?_
  have ea3 := EvE.mono (l2.trans l3) ea
  have l03 := (l1.trans l2).trans l3
  match a, ea3, q3 with
  | .dat (.list ds), ea, q =>
    cases (show Dv X.K S3.F x (.list ds) from ea) with
    | lst hf hA =>
      exact Or.inl (Or.inl ⟨_, _, rfl, Or.inl (Or.inl (r3.sub _ _ hf)), new_lst r3 (cut_dv hA lo' hi') fun v H' S' d r4 l4 e4 e => k v H' S' (.dat d) m3 r4 (l03.trans l4) e4 (by rw [e]; exact q)⟩)
  | .dat (.tuple ds), ea, q =>
    cases (show Dv X.K S3.F x (.tuple ds) from ea) with
    | tup hf hA =>
      refine Or.inl (Or.inr ⟨_, _, rfl, r3.sub.st hf, fun c => ?_, fun _ => new_tup r3 (cut_dv hA lo' hi') fun v H' S' d r4 l4 e4 e => k v H' S' (.dat d) m3 r4 (l03.trans l4) e4 (by rw [e]; exact q)⟩)
      have q' : Q (.dat (.tuple (cutD ds lo' hi'))) m3 := q
      rw [hA.length] at c
      rw [cut_whole c] at q'
      exact k _ H3 S3 (.dat (.tuple ds)) m3 r3 l03 ea q'
  | .dat (.str z), ea, q =>
    cases dv_str ea
    exact Or.inr ⟨z, rfl, q.1, k _ H3 S3 (.dat (.str _)) m3 r3 l03 (Dv.str _) q.2⟩
  | .loc j, ⟨p, hp, hx⟩, q =>
    subst hx
    have q' : (match m3[j]? with | some (.lst es) => allD es fun ds => Q (.dat (.list (cutD ds lo' hi'))) m3 | _ => False) := q
    split at q'
    · rename_i es hm
      obtain ⟨vs, hH, er⟩ := r3.ok j p _ hp hm
      obtain ⟨ds, rfl, q2⟩ := allD_of q'
      exact Or.inl (Or.inl ⟨_, _, rfl, Or.inl (Or.inl hH), new_lst r3 (cut_dv (evs_dat er) lo' hi') fun v H' S' d r4 l4 e4 e => k v H' S' (.dat d) m3 r4 (l03.trans l4) e4 (by rw [e]; exact q2)⟩)
    · exact q'.elim
  | .scr ns, ⟨p, hx, hS⟩, q =>
    subst hx
    refine Or.inl (Or.inl ⟨_, _, rfl, r3.sub.sl hS, new_lst r3 (cut_dv (ints_dv ns) lo' hi') fun v H' S' d r4 l4 e4 e => k v H' S' (.dat d) m3 r4 (l03.trans l4) e4 ?_⟩)
    rw [e, cut_map]
    exact q
/-- xs[::-1], a new list; frozen, or of the ledger -/
def onList (m : Mm) (a : E) (Q : List PyData → Prop) : Prop := asD m a fun d => match d with
  | .list ds => Q ds
  | _ => False
theorem onList_of {K : PySem.W.Frag} {W : Wd} {S : Sd} {m : Mm} {H : Hp} {v : V} {a : E} {Q : List PyData → Prop} (h : onList m a Q) (r : Rep K W S m H) (ev : EvE K S v a) : ∃ p vs ds, v = .ref p ∧ H p = some (.lst vs) ∧ DvAll K S.F vs ds ∧ Q ds := by
  obtain ⟨d, hv, q⟩ := asD_of h r ev
  match d, hv, q with
  | .list ds, hv, q =>
    obtain ⟨p, vs, e, hH, hA⟩ := vw_lst r.sub hv
    exact ⟨p, vs, ds, e, hH, hA, q⟩
theorem DvAll.reverse {K : PySem.W.Frag} {F : Hp} : ∀ {vs : List V} {ds : List PyData}, DvAll K F vs ds → DvAll K F vs.reverse ds.reverse
  | _, _, .nil => .nil
  | _, _, .cons h t => by
    rw [List.reverse_cons, List.reverse_cons]
    exact (DvAll.reverse t).append (.cons h .nil)
def dRev (ta : DTE) : DTE := fun g m Q => ta g m fun a m1 => onList m1 a fun ds => Q (.dat (.list ds.reverse)) m1
def dRevM (ta : DTE) : DTE := fun g m Q => ta g m fun a m1 => onList m1 a fun ds => Q (.loc m1.length) (m1 ++ [.lst (ds.reverse.map .dat)])
theorem d_rev {k : Nat} {p1 p2 p3 : Pos} (ha : DE X e1 t1) : DE X (.Subscript e1 (.Slice none none (some (.UnaryOp .USub (.Constant (.int 1) k p1) p2)) p3) pos) (dRev t1) := by
  obtain ⟨_, pa, sa⟩ := ha.ex
  refine ⟨_, pe_revL pa, fun W S g m σ H Q R r0 sl hq k => ?_⟩
  refine sa W S g m σ H _ _ r0 sl hq fun x H1 S1 a m1 r1 l1 ea q1 => ?_
  obtain ⟨p, vs, ds, rfl, hH, hA, q2⟩ := onList_of q1 r1 ea
  exact ⟨p, vs, rfl, Or.inl (Or.inl hH), new_lst r1 hA.reverse fun v H' S' d r4 l4 e4 e => k v H' S' (.dat d) m1 r4 (l1.trans l4) e4 (by rw [e]; exact q2)⟩
theorem d_revM {k : Nat} {p1 p2 p3 : Pos} (ha : DE X e1 t1) : DE X (.Subscript e1 (.Slice none none (some (.UnaryOp .USub (.Constant (.int 1) k p1) p2)) p3) pos) (dRevM t1) := by
  obtain ⟨_, pa, sa⟩ := ha.ex
  refine ⟨_, pe_revL pa, fun W S g m σ H Q R r0 sl hq k => ?_⟩
  refine sa W S g m σ H _ _ r0 sl hq fun x H1 S1 a m1 r1 l1 ea q1 => ?_
  obtain ⟨p, vs, ds, rfl, hH, hA, q2⟩ := onList_of q1 r1 ea
  refine ⟨p, vs, rfl, Or.inl (Or.inl hH), fun p' hp' => ?_⟩
  obtain ⟨r2, l2, e2⟩ := r1.own (o := .lst vs.reverse) (d := .lst (ds.reverse.map .dat)) hp' fun S' H' l' e' => ⟨_, e', dat_evs (DvAll.mono l'.f hA.reverse)⟩
  exact k _ _ _ (.loc m1.length) _ r2 (l1.trans l2) ⟨p', e2, rfl⟩ q2
end

/-! ### built-in functions on data -/
def asDs (m : Mm) : List E → (List PyData → Prop) → Prop
  | [], Q => Q []
  | e :: r, Q => asD m e fun d => asDs m r fun ds => Q (d :: ds)
inductive VwAll (K : PySem.W.Frag) (F H : Hp) : List V → List PyData → Prop
  | nil : VwAll K F H [] []
  | cons {v : V} {vs : List V} {d : PyData} {ds : List PyData} : Vw K F H v d → VwAll K F H vs ds → VwAll K F H (v :: vs) (d :: ds)
theorem asDs_of {K : PySem.W.Frag} {W : Wd} {S : Sd} {m : Mm} {H : Hp} (R : Rep K W S m H) : ∀ {vs : List V} {es : List E} {Q : List PyData → Prop}, asDs m es Q → EvEs K S vs es → ∃ ds, VwAll K S.F H vs ds ∧ Q ds
  | _, _, _, h, .nil => ⟨[], .nil, h⟩
  | _, _, _, h, .cons he t => by
    obtain ⟨d, hd, q⟩ := asD_of h R he
    obtain ⟨ds, hds, q2⟩ := asDs_of R q t
    exact ⟨d :: ds, .cons hd hds, q2⟩
abbrev FN := List PyData → (PyData → Prop) → Prop
def OpN (K : PySem.W.Frag) (r : List V → Hp → VK → Prop) (f : FN) : Prop := ∀ (W : Wd) (S : Sd) (m : Mm) (H : Hp) (vs : List V) (ds : List PyData) (Q : PyData → Prop) (R : VK), Rep K W S m H → VwAll K S.F H vs ds → f ds Q →
  (∀ v H' S' d, Rep K W S' m H' → Le S S' → Dv K S'.F v d → Q d → R v H') → r vs H R
def dCB (f : FN) (ta : DTA) : DTE := fun g m Q => ta g m fun es m1 => asDs m1 es fun ds => f ds fun d => Q (.dat d) m1
section
variable {X : Cx} {x : Str} {p pos : Pos} {e o : Expr} {es : List Expr} {t : DTA} {te : DTE} {id T : String} {r : List V → Hp → VK → Prop} {f : FN}
theorem snd_cb {K : PySem.W.Frag} {ta : TA} (h : OpN K r f) (ha : SndA K ta t) : Snd K (tCB r ta) (dCB f t) := by
  intro W S g m σ H Q R r0 s hq k
  refine ha W S g m σ H _ _ r0 s hq fun vs H1 S1 es m1 r1 l1 er q1 => ?_
  obtain ⟨ds, hv, q2⟩ := asDs_of r1 q1 er
  exact h W S1 m1 H1 vs ds _ R r1 hv q2 fun v H2 S2 d r2 l2 ed q3 => k v H2 S2 (.dat d) m1 r2 (l1.trans l2) ed q3
theorem d_cb (hc : CallR X (.builtin id) r) (h : OpN X.K r f) (hm : X.mg x = none) (hv : bootBuiltins x = some (.builtin id)) (ha : DA X (e :: es) t) (hg : Gl X x := by rfl) (hn : x ≠ "__name__" := by decide) (hdb : (x == ("__debug__" : Str)) = false := by decide)
    (he : starEach (e :: es) X.env = (false, eval e X.env) :: starEach es X.env := by rfl) (hpl : (backTo pos (starEach es X.env)).any (·.1) = false := by rfl) : DE X (.Call (.Name x p) (e :: es) [] pos) (dCB f t) := by
  obtain ⟨_, pa, sa⟩ := ha.ex
  exact ⟨_, pe_callB hc hg hm hv pa hn hdb he hpl, snd_cb h sa⟩
theorem d_cty (hc : CallR X (.type T) r) (h : OpN X.K r f) (hm : X.mg x = none) (hv : bootBuiltins x = some (.type T)) (ha : DA X (e :: es) t) (hg : Gl X x := by rfl) (hn : x ≠ "__name__" := by decide) (hdb : (x == ("__debug__" : Str)) = false := by decide)
    (he : starEach (e :: es) X.env = (false, eval e X.env) :: starEach es X.env := by rfl) (hpl : (backTo pos (starEach es X.env)).any (·.1) = false := by rfl) : DE X (.Call (.Name x p) (e :: es) [] pos) (dCB f t) := by
  obtain ⟨_, pa, sa⟩ := ha.ex
  exact ⟨_, pe_callTy hc hg hm hv pa hn hdb he hpl, snd_cb h sa⟩
end
section
variable {K : PySem.W.Frag}
theorem vwAll1 {F H : Hp} {vs : List V} {d : PyData} (h : VwAll K F H vs [d]) : ∃ v, vs = [v] ∧ Vw K F H v d := by
  cases h with
  | cons h t =>
    cases t
    exact ⟨_, rfl, h⟩
theorem vwAll2 {F H : Hp} {vs : List V} {d d' : PyData} (h : VwAll K F H vs [d, d']) : ∃ v w, vs = [v, w] ∧ Vw K F H v d ∧ Vw K F H w d' := by
  cases h with
  | cons h t =>
    cases t with
    | cons h' t =>
      cases t
      exact ⟨_, _, rfl, h, h'⟩
/-- len -/
def fLen : FN := fun ds Q => match ds with
  | [.list xs] => Q (.int xs.length)
  | [.tuple xs] => Q (.int xs.length)
  | [.str x] => x.length ≤ sizeLine ∧ Q (.int x.length)
  | _ => False
def rLenA (K : PySem.W.Frag) : List V → Hp → VK → Prop := fun xs H Q => (∃ p ys, xs = [.ref p] ∧ (SqL K H p ys ∨ SqT K H p ys) ∧ Q (.int ys.length) H) ∨ ∃ z, xs = [.str z] ∧ z.length ≤ sizeLine ∧ Q (.int z.length) H
theorem call_lenA {X : Cx} : CallR X (.builtin "len") (rLenA X.K) := CallR.or call_len_seq call_len_str
theorem opN_len : OpN K (rLenA K) fLen := by
  intro W S m H vs ds Q R r va q k
  match ds, va, q with
  | [.list xs], va, q =>
    obtain ⟨v, rfl, h⟩ := vwAll1 va
    obtain ⟨p, us, rfl, hH, hA⟩ := vw_lst r.sub h
    refine Or.inl ⟨p, us, rfl, Or.inl (Or.inl (Or.inl hH)), ?_⟩
    rw [hA.length]
    exact k _ H S _ r (Le.refl S) (.int _) q
  | [.tuple xs], va, q =>
    obtain ⟨v, rfl, h⟩ := vwAll1 va
    obtain ⟨p, us, rfl, hH, hA⟩ := vw_tup r.sub h
    refine Or.inl ⟨p, us, rfl, Or.inr hH, ?_⟩
    rw [hA.length]
    exact k _ H S _ r (Le.refl S) (.int _) q
  | [.str x], va, q =>
    obtain ⟨v, rfl, h⟩ := vwAll1 va
    cases vw_str h
    exact Or.inr ⟨x, rfl, q.1, k _ H S _ r (Le.refl S) (.int _) q.2⟩
/-- list(x), tuple(x) of a list or a tuple -/
def fList : FN := fun ds Q => match ds with
  | [.list xs] => Q (.list xs)
  | [.tuple xs] => Q (.list xs)
  | _ => False
def fTuple : FN := fun ds Q => match ds with
  | [.list xs] => Q (.tuple xs)
  | [.tuple xs] => Q (.tuple xs)
  | _ => False
theorem opN_list : OpN K (fun xs H Q => ∃ p ys, xs = [.ref p] ∧ (SqL K H p ys ∨ SqT K H p ys) ∧ ∀ l, H l = none → Q (.ref l) (upd H l (.lst ys))) fList := by
  intro W S m H vs ds Q R r va q k
  match ds, va, q with
  | [.list xs], va, q =>
    obtain ⟨v, rfl, h⟩ := vwAll1 va
    obtain ⟨p, us, rfl, hH, hA⟩ := vw_lst r.sub h
    exact ⟨p, us, rfl, Or.inl (Or.inl (Or.inl hH)), new_lst r hA fun v H' S' d r1 l1 e1 e => k v H' S' d r1 l1 e1 (by rw [e]; exact q)⟩
  | [.tuple xs], va, q =>
    obtain ⟨v, rfl, h⟩ := vwAll1 va
    obtain ⟨p, us, rfl, hH, hA⟩ := vw_tup r.sub h
    exact ⟨p, us, rfl, Or.inr hH, new_lst r hA fun v H' S' d r1 l1 e1 e => k v H' S' d r1 l1 e1 (by rw [e]; exact q)⟩
theorem opN_tuple : OpN K (fun xs H Q => ∃ p ys, xs = [.ref p] ∧ ((SqL K H p ys ∧ ∀ l, H l = none → Q (.ref l) (upd H l (.tup ys))) ∨ (SqT K H p ys ∧ Q (.ref p) H))) fTuple := by
  intro W S m H vs ds Q R r va q k
  match ds, va, q with
  | [.list xs], va, q =>
    obtain ⟨v, rfl, h⟩ := vwAll1 va
    obtain ⟨p, us, rfl, hH, hA⟩ := vw_lst r.sub h
    exact ⟨p, us, rfl, Or.inl ⟨Or.inl (Or.inl hH), new_tup r hA fun v H' S' d r1 l1 e1 e => k v H' S' d r1 l1 e1 (by rw [e]; exact q)⟩⟩
  | [.tuple xs], va, q =>
    obtain ⟨v, rfl, h⟩ := vwAll1 va
    have hF : Dv K S.F v (.tuple xs) := h.resolve_right fun ⟨_, _, _, _, e, _⟩ => by cases e
    obtain ⟨p, us, rfl, hH, hA⟩ := vw_tup r.sub h
    exact ⟨p, us, rfl, Or.inr ⟨hH, k _ H S _ r (Le.refl S) hF q⟩⟩
/-- int(b), int(i) -/
def fInt : FN := fun ds Q => match ds with
  | [.int i] => Q (.int i)
  | [.bool b] => Q (.int (if b then 1 else 0))
  | _ => False
theorem opN_int : OpN K (fun xs H Q => (∃ i, xs = [.int i] ∧ Q (.int i) H) ∨ ∃ k, xs = [.bl k] ∧ Q (.int (if k then 1 else 0)) H) fInt := by
  intro W S m H vs ds Q R r va q k
  match ds, va, q with
  | [.int i], va, q =>
    obtain ⟨v, rfl, h⟩ := vwAll1 va
    cases vw_int h
    exact Or.inl ⟨i, rfl, k _ H S _ r (Le.refl S) (.int _) q⟩
  | [.bool b], va, q =>
    obtain ⟨v, rfl, h⟩ := vwAll1 va
    cases vw_bl h
    exact Or.inr ⟨b, rfl, k _ H S _ r (Le.refl S) (.int _) q⟩
/-- all, any of a list of bools -/
def bools : List PyData → (List Bool → Prop) → Prop
  | [], Q => Q []
  | .bool b :: r, Q => bools r fun bs => Q (b :: bs)
  | _ :: _, _ => False
theorem bools_of : ∀ {ds : List PyData} {Q : List Bool → Prop}, bools ds Q → ∃ bs, ds = bs.map .bool ∧ Q bs
  | [], _, h => ⟨[], rfl, h⟩
  | .bool b :: r, Q, h => by
    obtain ⟨bs, e, q⟩ := bools_of (ds := r) (Q := fun bs => Q (b :: bs)) h
    exact ⟨b :: bs, by rw [e]; rfl, q⟩
  | .none :: _, _, h => h.elim
  | .int _ :: _, _, h => h.elim
  | .str _ :: _, _, h => h.elim
  | .list _ :: _, _, h => h.elim
  | .tuple _ :: _, _, h => h.elim
  | .dict _ :: _, _, h => h.elim
theorem bools_map : ∀ (bs : List Bool) (Q : List Bool → Prop), Q bs → bools (bs.map .bool) Q
  | [], _, h => h
  | b :: bs, Q, h => bools_map bs (fun r => Q (b :: r)) h
theorem dv_bls {F : Hp} : ∀ {bs : List Bool} {vs : List V}, DvAll K F vs (bs.map .bool) → vs = bs.map V.bl
  | [], _, .nil => rfl
  | b :: bs, _, .cons h t => by
    rw [dv_bl h, dv_bls t]
    rfl
def fAll : FN := fun ds Q => match ds with
  | [.list xs] => bools xs fun bs => Q (.bool (bs.all id))
  | _ => False
def fAny : FN := fun ds Q => match ds with
  | [.list xs] => bools xs fun bs => Q (.bool (bs.any id))
  | _ => False
theorem opN_all : OpN K (rAll K) fAll := by
  intro W S m H vs ds Q R r va q k
  match ds, va, q with
  | [.list xs], va, q =>
    obtain ⟨v, rfl, h⟩ := vwAll1 va
    obtain ⟨p, us, rfl, hH, hA⟩ := vw_lst r.sub h
    obtain ⟨bs, rfl, q2⟩ := bools_of q
    rw [dv_bls hA] at hH
    exact ⟨p, bs, rfl, Or.inl (Or.inl hH), k _ H S _ r (Le.refl S) (.bl _) q2⟩
theorem opN_any : OpN K (rAny K) fAny := by
  intro W S m H vs ds Q R r va q k
  match ds, va, q with
  | [.list xs], va, q =>
    obtain ⟨v, rfl, h⟩ := vwAll1 va
    obtain ⟨p, us, rfl, hH, hA⟩ := vw_lst r.sub h
    obtain ⟨bs, rfl, q2⟩ := bools_of q
    rw [dv_bls hA] at hH
    exact ⟨p, bs, rfl, Or.inl (Or.inl hH), k _ H S _ r (Le.refl S) (.bl _) q2⟩
/-- sorted of texts or of ints, fewer than 64: some ascending arrangement -/
def strsD : List PyData → (List Str → Prop) → Prop
  | [], Q => Q []
  | .str b :: r, Q => strsD r fun bs => Q (b :: bs)
  | _ :: _, _ => False
theorem strsD_of : ∀ {ds : List PyData} {Q : List Str → Prop}, strsD ds Q → ∃ bs, ds = bs.map .str ∧ Q bs
  | [], _, h => ⟨[], rfl, h⟩
  | .str b :: r, Q, h => by
    obtain ⟨bs, e, q⟩ := strsD_of (ds := r) (Q := fun bs => Q (b :: bs)) h
    exact ⟨b :: bs, by rw [e]; rfl, q⟩
  | .none :: _, _, h => h.elim
  | .int _ :: _, _, h => h.elim
  | .bool _ :: _, _, h => h.elim
  | .list _ :: _, _, h => h.elim
  | .tuple _ :: _, _, h => h.elim
  | .dict _ :: _, _, h => h.elim
theorem strsD_map : ∀ (bs : List Str) (Q : List Str → Prop), Q bs → strsD (bs.map .str) Q
  | [], _, h => h
  | b :: bs, Q, h => strsD_map bs (fun r => Q (b :: r)) h
def intsD : List PyData → (List Int → Prop) → Prop
  | [], Q => Q []
  | .int b :: r, Q => intsD r fun bs => Q (b :: bs)
  | _ :: _, _ => False
theorem intsD_of : ∀ {ds : List PyData} {Q : List Int → Prop}, intsD ds Q → ∃ bs, ds = bs.map .int ∧ Q bs
  | [], _, h => ⟨[], rfl, h⟩
  | .int b :: r, Q, h => by
    obtain ⟨bs, e, q⟩ := intsD_of (ds := r) (Q := fun bs => Q (b :: bs)) h
    exact ⟨b :: bs, by rw [e]; rfl, q⟩
  | .none :: _, _, h => h.elim
  | .str _ :: _, _, h => h.elim
  | .bool _ :: _, _, h => h.elim
  | .list _ :: _, _, h => h.elim
  | .tuple _ :: _, _, h => h.elim
  | .dict _ :: _, _, h => h.elim
theorem intsD_map : ∀ (bs : List Int) (Q : List Int → Prop), Q bs → intsD (bs.map .int) Q
  | [], _, h => h
  | b :: bs, Q, h => intsD_map bs (fun r => Q (b :: r)) h
theorem dv_strs {F : Hp} : ∀ {bs : List Str} {vs : List V}, DvAll K F vs (bs.map .str) → vs = bs.map V.str
  | [], _, .nil => rfl
  | b :: bs, _, .cons h t => by
    rw [dv_str h, dv_strs t]
    rfl
theorem dv_ints {F : Hp} : ∀ {bs : List Int} {vs : List V}, DvAll K F vs (bs.map .int) → vs = bs.map V.int
  | [], _, .nil => rfl
  | b :: bs, _, .cons h t => by
    rw [dv_int h, dv_ints t]
    rfl
theorem strs_dv {F : Hp} : ∀ bs : List Str, DvAll K F (bs.map V.str) (bs.map .str)
  | [] => .nil
  | b :: bs => .cons (.str b) (strs_dv bs)
def fSorted : FN := fun ds Q => match ds with
  | [.list (.str x :: xs)] => strsD (.str x :: xs) fun bs => bs.length < 64 ∧ ∀ ys : List Str, ys.Perm bs → sortedS ys = true → Q (.list (ys.map .str))
  | [.list xs] => intsD xs fun bs => bs.length < 64 ∧ ∀ ys : List Int, ys.Perm bs → ys.Pairwise (· ≤ ·) → Q (.list (ys.map .int))
  | _ => False
theorem opN_sorted : OpN K (fun xs H Q => rSortedS K xs H Q ∨ rSorted K xs H Q) fSorted := by
  intro W S m H vs ds Q R r va q k
  unfold fSorted at q
  split at q
  · obtain ⟨v, rfl, h⟩ := vwAll1 va
    obtain ⟨p, us, rfl, hH, hA⟩ := vw_lst r.sub h
    obtain ⟨bs, e, h64, q2⟩ := strsD_of q
    rw [e] at hA
    rw [dv_strs hA] at hH
    exact Or.inl ⟨p, bs, rfl, Or.inl (Or.inl hH), h64, fun ys p' h1 h2 hp => new_lst r (strs_dv ys) (fun v H' S' d r1 l1 e1 e => k v H' S' d r1 l1 e1 (by rw [e]; exact q2 ys h1 h2)) p' hp⟩
  · obtain ⟨v, rfl, h⟩ := vwAll1 va
    obtain ⟨p, us, rfl, hH, hA⟩ := vw_lst r.sub h
    obtain ⟨bs, e, h64, q2⟩ := intsD_of q
    rw [e] at hA
    rw [dv_ints hA] at hH
    exact Or.inr ⟨p, bs, rfl, Or.inl (Or.inl hH), h64, fun ys p' h1 h2 hp => new_lst r (ints_dv ys) (fun v H' S' d r1 l1 e1 e => k v H' S' d r1 l1 e1 (by rw [e]; exact q2 ys h1 h2)) p' hp⟩
  · exact q.elim
theorem call_sortedA {X : Cx} : CallR X (.builtin "sorted") (fun xs H Q => rSortedS X.K xs H Q ∨ rSorted X.K xs H Q) := CallR.or cr_sortedS cr_sorted
end

/-! ### repr -/
section
variable {X : Cx}
def rRepr (K : PySem.W.Frag) : List V → Hp → VK → Prop := fun xs H Q => ∃ x d, xs = [x] ∧ Dp K H x d ∧ d.showable = true ∧ d.hasDict = false ∧ d.depth ≤ 60 ∧ d.shown.length ≤ sizeLine ∧ Q (.str d.shown) H
theorem call_reprD (hG : X.A.guards = some []) (hu : X.A.units + 64 < cLine) : CallR X (.builtin "repr") (rRepr X.K) := by
  intro pins s σ H xs us Q I r h
  obtain ⟨x, d, rfl, hd, hs, hn, hdp, hz, q⟩ := h
  obtain ⟨u, rfl, rx⟩ := vals1 r
  obtain ⟨as, rd⟩ := Dp.reads I d x u hd rx
  cases hd with
  | non =>
    cases rx
    exact P.repr_of_none ⟨.str _, H, I.tok _, ⟨_, rfl⟩, q⟩
  | bl b =>
    cases rx
    exact P.repr_of_bool ⟨.str _, H, I.tok _, ⟨_, rfl⟩, q⟩
  | int i =>
    obtain ⟨t, rfl⟩ := rx
    exact P.repr_of_int (of_decide_eq_true hs) ⟨.str _, H, I.tok _, ⟨_, rfl⟩, q⟩
  | str z =>
    obtain ⟨t, rfl⟩ := rx
    exact P.repr_of_str (hsz := hz) ⟨.str _, H, I.tok _, ⟨_, rfl⟩, q⟩
  | lst _ _ =>
    cases rx
    exact repr_of_reads' rd hs (fun e => by rw [hn] at e; cases e) hG (by omega) (fun _ _ e => e) (fun h' u tk hk => ⟨.str _, H, I.kept hk, ⟨_, rfl⟩, q⟩) hz
  | tup _ _ =>
    cases rx
    exact repr_of_reads' rd hs (fun e => by rw [hn] at e; cases e) hG (by omega) (fun _ _ e => e) (fun h' u tk hk => ⟨.str _, H, I.kept hk, ⟨_, rfl⟩, q⟩) hz
end
def fRepr : FN := fun ds Q => match ds with
  | [d] => SeqAt.shaped d = true ∧ d.showable = true ∧ d.depth ≤ 60 ∧ d.shown.length ≤ sizeLine ∧ Q (.str d.shown)
  | _ => False
mutual
theorem noDict_lay : ∀ d : PyData, d.canLay0 = true → d.hasDict = false
  | .none, _ => rfl
  | .bool _, _ => rfl
  | .int _, _ => rfl
  | .str _, _ => rfl
  | .list xs, h => noDict_layAll xs h
  | .tuple xs, h => noDict_layAll xs h
  | .dict _, h => nomatch h
theorem noDict_layAll : ∀ ds : List PyData, PyData.canLayAll0 ds = true → PyData.hasDictAll ds = false
  | [], _ => rfl
  | d :: ds, h => by
    have h' := Bool.and_eq_true_iff.mp h
    show (d.hasDict || PyData.hasDictAll ds) = false
    rw [noDict_lay d h'.1, noDict_layAll ds h'.2]
    rfl
end
theorem opN_repr {K : PySem.W.Frag} : OpN K (rRepr K) fRepr := by
  intro W S m H vs ds Q R r va q k
  match ds, va, q with
  | [d], va, q =>
    obtain ⟨v, rfl, h⟩ := vwAll1 va
    have hc := SeqAt.canLay_of_shaped q.1
    exact ⟨v, d, rfl, vw_dp r.sub h hc, q.2.1, noDict_lay d hc, q.2.2.1, q.2.2.2.1, k _ H S _ r (Le.refl S) (.str _) q.2.2.2.2⟩

/-! ### isinstance -/
def tyD : PyData → String
  | .none => "NoneType"
  | .bool _ => "bool"
  | .int _ => "int"
  | .str _ => "str"
  | .list _ => "list"
  | .tuple _ => "tuple"
  | .dict _ => "dict"
def instD (d : PyData) (T : String) : Bool := tyD d == T || (T == "int" && tyD d == "bool")
def kTys : List String := ["str", "int", "bool", "tuple", "list", "dict"]
theorem kit_all {K : PySem.W.Frag} {d : PyData} {T : String} (hT : T ∈ kTys) : PySem.W.kitOne K (.type (tyD d)) (.type T) = some (instD d T) := by
  have all : ∀ a ∈ (["NoneType", "bool", "int", "str", "list", "tuple", "dict"] : List String), ∀ b ∈ kTys, kitB a b = some (a == b || (b == "int" && a == "bool")) := by decide +kernel
  refine kit_ty (all _ ?_ T hT)
  cases d <;> simp [tyD]
theorem vw_ty {K : PySem.W.Frag} {F H : Hp} (hs : Sub F H) {v : V} {d : PyData} (h : Vw K F H v d) : TyX K H v (.type (tyD d)) := by
  rcases h with h | ⟨p, vs, ds, rfl, rfl, hH, _⟩
  · cases h with
    | non => exact .base .non
    | bl b => exact .base (.bl b)
    | int i => exact .base (.int i)
    | str x => exact .base (.str x)
    | lst h _ => exact .base (.lst (hs _ _ h))
    | tup h _ =>
      rcases hs.st h with (h | ⟨o, h⟩) | ⟨o, its, n, h, hc, _⟩
      · exact .base (.tup h)
      · exact .fTuple h
      · exact .kTuple h hc
    | dic h _ => exact .base (.dK (hs _ _ h))
  · exact .base (.lst hH)
/-- also of a dict of the ledger -/
def tyE (m : Mm) : E → (String → Prop) → Prop
  | .dat d, Q => Q (tyD d)
  | .loc k, Q => match m[k]? with
    | some (.lst _) => Q "list"
    | some (.dic _) => Q "dict"
    | _ => False
  | .scr _, _ => False
section
variable {X : Cx} {p p2 pos : Pos} {e : Expr} {te : DTE} {T : Str}
def dIsi (T : String) (te : DTE) : DTE := fun g m Q => te g m fun a m1 => asD m1 a fun d => Q (.dat (.bool (instD d T))) m1
theorem d_isi {T : String} {x : Str} (hm : X.mg "isinstance" = none) (hmT : X.mg x = none) (hv : bootBuiltins x = some (.type T)) (hT : T ∈ kTys) (h : DE X e te) (hg : Gl X "isinstance" := by rfl) (hgT : Gl X x := by rfl) (hn : x ≠ "__name__" := by decide) (hdb : (x == ("__debug__" : Str)) = false := by decide)
    (he : starEach [e, .Name x p2] X.env = (false, eval e X.env) :: starEach [.Name x p2] X.env := by rfl) (hpl : (backTo pos (starEach [.Name x p2] X.env)).any (·.1) = false := by rfl) :
    DE X (.Call (.Name "isinstance" p) [e, .Name x p2] [] pos) (dIsi T te) := by
  obtain ⟨_, pe, se⟩ := h.ex
  refine ⟨_, pe_callB call_isi hg hm PyProof.Rows.boot_isinstance (pa_cons pe (pa_cons (pe_bltn (v := .ty T) hgT hmT hv rfl hn hdb) pa_nil) he) (by decide) (by decide) he hpl, fun W S g m σ H Q R r0 sl hq k => ?_⟩
  refine se W S g m σ H _ _ r0 sl hq fun x H1 S1 a m1 r1 l1 ea q1 => ?_
  obtain ⟨d, hd, q2⟩ := asD_of q1 r1 ea
  exact ⟨x, .ty T, .type (tyD d), .type T, instD d T, rfl, .ty T, vw_ty r1.sub hd, kit_all hT, k _ H1 S1 (.dat (.bool _)) m1 r1 l1 (Dv.bl _) q2⟩
end
end DL
/-! DLg: the ledger's stores and methods, texts' methods, freezing, comprehensions as expressions and statements, dict displays. -/
namespace DL
open PySem PySem.Spec PyProof.Rows L2

/-! ### the ledger's lists -/
def onLst' (m : Mm) : E → (Nat → List E → Prop) → Prop
  | .loc k, Q => match m[k]? with
    | some (.lst es) => Q k es
    | _ => False
  | _, _ => False
theorem onLst'_of {K : PySem.W.Frag} {W : Wd} {S : Sd} {m : Mm} {H : Hp} {v : V} {e : E} {Q : Nat → List E → Prop} (h : onLst' m e Q) (R : Rep K W S m H) (ev : EvE K S v e) :
    ∃ k p vs es, e = .loc k ∧ S.A[k]? = some p ∧ v = .ref p ∧ m[k]? = some (.lst es) ∧ H p = some (.lst vs) ∧ EvEs K S vs es ∧ Q k es := by
  cases e with
  | dat d => exact h.elim
  | scr _ => exact h.elim
  | loc k =>
    have h' : (match m[k]? with | some (.lst es) => Q k es | _ => False) := h
    obtain ⟨p, hp, rfl⟩ := ev
    split at h'
    · rename_i es hm
      obtain ⟨vs, hH, er⟩ := R.ok k p _ hp hm
      exact ⟨k, p, vs, es, rfl, hp, rfl, hm, hH, er, h'⟩
    · exact h'.elim
section
variable {X : Cx} {o e : Expr} {to te : DTE} {apos cpos pos : Pos}
/-- xs.append(e) -/
def dApp (to te : DTE) : DTE := fun g m Q => to g m fun a m1 => onLst' m1 a fun _ _ => te g m1 fun e m2 => onLst' m2 a fun k es => es.length < sizeLine ∧ Q (.dat .none) (m2.set k (.lst (es ++ [e])))
theorem EvEs.append {K : PySem.W.Frag} {S : Sd} : ∀ {vs ws : List V} {es fs : List E}, EvEs K S vs es → EvEs K S ws fs → EvEs K S (vs ++ ws) (es ++ fs)
  | _, _, _, _, .nil, h => h
  | _, _, _, _, .cons h t, h' => .cons h (EvEs.append t h')
theorem d_app (ho : DE X o to) (he : DE X e te) (hbase : attributeBase o "append" X.env (eval o X.env) = eval o X.env := by rfl)
    (hfew : ((backTo cpos (starEach (e :: []) X.env)).all (fun x => !x.1) && (backToKw cpos (keywordEach [] X.env)).all (fun x => x.1.isSome)
      && decide ((e :: []).length + ([] : List Keyword).length + (if ([] : List Keyword).isEmpty then 0 else 1) < 30)) = true := by rfl)
    (hline : (apos.endLine == cpos.line) = true := by rfl) (hs : starEach (e :: []) X.env = (false, eval e X.env) :: starEach [] X.env := by rfl) (hplain : (backTo cpos (starEach [] X.env)).any (·.1) = false := by rfl) :
    DE X (.Call (.Attribute o "append" apos) [e] [] cpos) (dApp to te) := by
  obtain ⟨_, p1, s1⟩ := ho.ex
  obtain ⟨_, p2, s2⟩ := he.ex
  refine ⟨_, pe_bm PySem.F.plainAttrs_list PySem.F.slot_list_append PySem.F.type_list_append mt_append p1 (pa_cons p2 pa_nil hs) hbase hfew hline hs hplain, fun W S g m σ H Q R r0 sl hq k => ?_⟩
  refine s1 W S g m σ H _ _ r0 sl hq fun x H1 S1 a m1 r1 l1 ea q1 => ?_
  obtain ⟨j, p, vs, es, rfl, hp, rfl, hm, hH, er, q2⟩ := onLst'_of q1 r1 ea
  refine ⟨Or.inl ⟨rfl, vs, Or.inl (Or.inl hH)⟩, ?_⟩
  refine s2 W S1 g m1 σ H1 _ _ r1 (sl.mono l1) q2 fun y H2 S2 b m2 r2 l2 eb q3 => ?_
  obtain ⟨j2, p2, vs2, es2, ej, hp2, ep, hm2, hH2, er2, hz, q4⟩ := onLst'_of q3 r2 (EvE.mono l2 ea)
  cases ej
  cases ep
  refine ⟨p, vs2, y, rfl, rfl, hH2, by rw [EvEs.length er2]; exact hz, ?_⟩
  refine k .non _ S2 (.dat .none) _ (r2.wr (d := .lst (es2 ++ [b])) hp2 hm2 (fun z => nomatch z) ⟨_, upd_same, EvEs.append er2 (.cons eb .nil)⟩) (l1.trans l2) Dv.non q4
/-- xs.pop() -/
def dPop (to : DTE) : DTE := fun g m Q => to g m fun a m1 => onLst' m1 a fun k es => ∃ e, es[es.length - 1]? = some e ∧ Q e (m1.set k (.lst es.dropLast))
theorem evs_dropLast {K : PySem.W.Frag} {S : Sd} : ∀ {vs : List V} {es : List E}, EvEs K S vs es → EvEs K S vs.dropLast es.dropLast
  | _, _, .nil => .nil
  | _, _, .cons h .nil => .nil
  | _, _, .cons h (.cons h' t) => .cons h (evs_dropLast (.cons h' t))
theorem d_pop (ho : DE X o to) (hbase : attributeBase o "pop" X.env (eval o X.env) = eval o X.env := by rfl) (hline : (apos.endLine == cpos.line) = true := by rfl) : DE X (.Call (.Attribute o "pop" apos) [] [] cpos) (dPop to) := by
  obtain ⟨_, p1, s1⟩ := ho.ex
  refine ⟨_, pe_bm0 PySem.F.plainAttrs_list PySem.F.slot_list_pop PySem.F.type_list_pop mt_pop p1 hbase hline, fun W S g m σ H Q R r0 sl hq k => ?_⟩
  refine s1 W S g m σ H _ _ r0 sl hq fun x H1 S1 a m1 r1 l1 ea q1 => ?_
  obtain ⟨j, p, vs, es, rfl, hp, rfl, hm, hH, er, e, he, q2⟩ := onLst'_of q1 r1 ea
  refine ⟨Or.inl ⟨rfl, vs, Or.inl (Or.inl hH)⟩, ?_⟩
  obtain ⟨y, hy, ry⟩ := evs_get er he
  refine ⟨p, vs, y, rfl, rfl, hH, by rw [EvEs.length er]; exact hy, ?_⟩
  exact k y _ S1 e _ (r1.wr (d := .lst es.dropLast) hp hm (fun z => nomatch z) ⟨_, upd_same, evs_dropLast er⟩) l1 ry q2
/-- xs.extend(ys) -/
def dExt (to te : DTE) : DTE := fun g m Q => to g m fun a m1 => onLst' m1 a fun _ _ => te g m1 fun e m2 => onList m2 e fun ds => onLst' m2 a fun k es => es.length + ds.length ≤ sizeLine ∧ Q (.dat .none) (m2.set k (.lst (es ++ ds.map .dat)))
theorem d_ext (ho : DE X o to) (he : DE X e te) (hbase : attributeBase o "extend" X.env (eval o X.env) = eval o X.env := by rfl)
    (hfew : ((backTo cpos (starEach (e :: []) X.env)).all (fun x => !x.1) && (backToKw cpos (keywordEach [] X.env)).all (fun x => x.1.isSome)
      && decide ((e :: []).length + ([] : List Keyword).length + (if ([] : List Keyword).isEmpty then 0 else 1) < 30)) = true := by rfl)
    (hline : (apos.endLine == cpos.line) = true := by rfl) (hs : starEach (e :: []) X.env = (false, eval e X.env) :: starEach [] X.env := by rfl) (hplain : (backTo cpos (starEach [] X.env)).any (·.1) = false := by rfl) :
    DE X (.Call (.Attribute o "extend" apos) [e] [] cpos) (dExt to te) := by
  obtain ⟨_, p1, s1⟩ := ho.ex
  obtain ⟨_, p2, s2⟩ := he.ex
  refine ⟨_, pe_bm PySem.F.plainAttrs_list PySem.F.slot_list_extend PySem.F.type_list_extend mt_extend p1 (pa_cons p2 pa_nil hs) hbase hfew hline hs hplain, fun W S g m σ H Q R r0 sl hq k => ?_⟩
  refine s1 W S g m σ H _ _ r0 sl hq fun x H1 S1 a m1 r1 l1 ea q1 => ?_
  obtain ⟨j, p, vs, es, rfl, hp, rfl, hm, hH, er, q2⟩ := onLst'_of q1 r1 ea
  refine ⟨Or.inl ⟨rfl, vs, Or.inl (Or.inl hH)⟩, ?_⟩
  refine s2 W S1 g m1 σ H1 _ _ r1 (sl.mono l1) q2 fun y H2 S2 b m2 r2 l2 eb q3 => ?_
  obtain ⟨pb, us, ds, rfl, hHb, hA, q4⟩ := onList_of q3 r2 eb
  obtain ⟨j2, p2, vs2, es2, ej, hp2, ep, hm2, hH2, er2, hz, q5⟩ := onLst'_of q4 r2 (EvE.mono l2 ea)
  cases ej
  cases ep
  refine ⟨p, pb, vs2, us, rfl, rfl, hH2, hHb, by rw [EvEs.length er2, hA.length]; exact hz, ?_⟩
  exact k .non _ S2 (.dat .none) _ (r2.wr (d := .lst (es2 ++ ds.map .dat)) hp2 hm2 (fun z => nomatch z) ⟨_, upd_same, EvEs.append er2 (dat_evs hA)⟩) (l1.trans l2) Dv.non q5

/-! ### o[i] = v -/
def rSetA : V → V → V → Hp → (Hp → Prop) → Prop := fun o i v H Q => rSetL o i v H Q ∨ ∃ a H4, o = .ref a ∧ DPut H a i v H4 ∧ Q H4
theorem set_any (hu : X.A.units + 1 < cLine) : PSet X rSetA := by
  intro pins s σ H o i v ov iv u Q I ro ri rv h
  rcases h with h | ⟨a, H4, rfl, g, q⟩
  · exact set_list pins s σ H o i v ov iv u Q I ro ri rv h
  · cases ro
    exact d_setItem hu I g ri rv fun s4 I4 => ⟨H4, I4, q⟩
def putE (kvs : List (Key × E)) (k : Key) (e : E) : List (Key × E) := if kvs.any (fun kv => decide (kv.1 = k)) = true then kvs.map (fun kv => if kv.1 = k then (kv.1, e) else kv) else kvs ++ [(k, e)]
def setE (m : Mm) (a : E) (y : PyData) (e : E) (Q : Mm → Prop) : Prop := match a with
  | .loc k => match m[k]? with
    | some (.lst es) => onI y fun i => ∃ j, ixN es.length i = some j ∧ Q (m.set k (.lst (es.set j e)))
    | some (.dic kvs) => onKey y fun ky => kvs.length < sizeLine ∧ Q (m.set k (.dic (putE kvs ky e)))
    | _ => False
  | _ => False
theorem evs_set {K : PySem.W.Frag} {S : Sd} {v : V} {e : E} (r : EvE K S v e) : ∀ {vs : List V} {es : List E} (j : Nat), EvEs K S vs es → EvEs K S (vs.set j v) (es.set j e)
  | _, _, _, .nil => .nil
  | _, _, 0, .cons h t => .cons r t
  | _, _, j + 1, .cons h t => .cons h (evs_set r j t)
theorem ev_any {K : PySem.W.Frag} {S : Sd} {k : Key} : ∀ {ws : List (Key × V)} {kvs : List (Key × E)}, EvKv K S ws kvs → (ws.any fun kv => decide (kv.1 = k)) = (kvs.any fun kv => decide (kv.1 = k))
  | _, _, .nil => rfl
  | _, _, .cons h t => by rw [List.any_cons, List.any_cons, ev_any t, h.1]
theorem ev_map {K : PySem.W.Frag} {S : Sd} {k : Key} {v : V} {e : E} (r : EvE K S v e) : ∀ {ws : List (Key × V)} {kvs : List (Key × E)}, EvKv K S ws kvs → EvKv K S (ws.map fun kv => if kv.1 = k then (kv.1, v) else kv) (kvs.map fun kv => if kv.1 = k then (kv.1, e) else kv)
  | _, _, .nil => .nil
  | (k1, v1) :: _, (k2, e2) :: _, .cons h t => by
    have hk : k1 = k2 := h.1
    subst hk
    rw [List.map_cons, List.map_cons]
    refine .cons ?_ (ev_map r t)
    by_cases c : k1 = k
    · rw [if_pos c, if_pos c]
      exact ⟨rfl, r⟩
    · rw [if_neg c, if_neg c]
      exact ⟨rfl, h.2⟩
theorem kv_append {K : PySem.W.Frag} {S : Sd} : ∀ {ws us : List (Key × V)} {kvs xs : List (Key × E)}, EvKv K S ws kvs → EvKv K S us xs → EvKv K S (ws ++ us) (kvs ++ xs)
  | _, _, _, _, .nil, h => h
  | _, _, _, _, .cons h t, h' => .cons h (kv_append t h')
theorem ev_put {K : PySem.W.Frag} {S : Sd} {k : Key} {v : V} {e : E} (r : EvE K S v e) {ws : List (Key × V)} {kvs : List (Key × E)} (h : EvKv K S ws kvs) : EvKv K S (putK ws k v) (putE kvs k e) := by
  unfold putK putE
  rw [ev_any h]
  split
  · exact ev_map r h
  · exact kv_append h (.cons ⟨rfl, r⟩ .nil)
theorem set_core {K : PySem.W.Frag} {W : Wd} {S : Sd} {m : Mm} {H : Hp} {x y v : V} {a e : E} {b : PyData} {Q : Mm → Prop} {R : Hp → Prop} (r : Rep K W S m H) (ea : EvE K S x a) (eb : Dv K S.F y b) (ev : EvE K S v e) (h : setE m a b e Q)
    (k : ∀ H' m', Rep K W S m' H' → Q m' → R H') : rSetA x y v H R := by
  cases a with
  | dat d => exact h.elim
  | scr _ => exact h.elim
  | loc j =>
    obtain ⟨p, hp, rfl⟩ := ea
    have h' : (match m[j]? with | some (.lst es) => onI b fun i => ∃ j', ixN es.length i = some j' ∧ Q (m.set j (.lst (es.set j' e))) | some (.dic kvs) => onKey b fun ky => kvs.length < sizeLine ∧ Q (m.set j (.dic (putE kvs ky e))) | _ => False) := h
    split at h'
    · rename_i es hm
      obtain ⟨vs, hH, er⟩ := r.ok j p _ hp hm
      obtain ⟨i, rfl, j', hj, q⟩ := onI_of h'
      cases dv_int eb
      exact Or.inl ⟨p, vs, i, j', rfl, rfl, hH, by rw [EvEs.length er]; exact hj, k _ _ (r.wr (d := .lst (es.set j' e)) hp hm (fun z => nomatch z) ⟨_, upd_same, evs_set ev j' er⟩) q⟩
    · rename_i kvs hm
      obtain ⟨ws, hH, er⟩ := r.ok j p _ hp hm
      obtain ⟨ky, rfl, hz, q⟩ := onKey_of h'
      cases dv_key eb
      exact Or.inr ⟨p, _, rfl, DPut.k hH (by rw [Paired.length er]; exact hz), k _ _ (r.wr (d := .dic (putE kvs ky e)) hp hm (fun z => nomatch z) ⟨_, upd_same, ev_put ev er⟩) q⟩
    · exact h'.elim
variable {i : Expr} {ti : DTE}
def dgSub (to ti : DTE) : DTG := fun e g m Q => to g m fun a m1 => ti g m1 fun b m2 => onD b fun y => setE m2 a y e fun m3 => Q g m3
theorem dg_sub (hu : X.A.units + 1 < cLine) (ho : DE X o to) (hi : DE X i ti)
    (ha : ∀ v, assign (.Subscript o i pos) X.env v = (do
      let ov ← holding [v] (eval o X.env)
      let iv ← holding [v, ov] (eval i X.env)
      standAt pos
      holding [v, ov, iv] (setItem ov iv v)
      release [v, ov, iv] []) := by intro _; rfl) : DG X (.Subscript o i pos) (dgSub to ti) := by
  obtain ⟨_, p1, s1⟩ := ho.ex
  obtain ⟨_, p2, s2⟩ := hi.ex
  refine ⟨_, pg_sub p1 p2 (set_any hu) ha, fun W S g m σ H v e Q R r0 sl ev hq k => ?_⟩
  refine s1 W S g m σ H _ _ r0 sl hq fun x H1 S1 a m1 r1 l1 ea q1 => ?_
  refine s2 W S1 g m1 σ H1 _ _ r1 (sl.mono l1) q1 fun y H2 S2 b m2 r2 l2 eb q2 => ?_
  obtain ⟨b', rfl, q3⟩ := onD_of q2
  exact set_core r2 (EvE.mono l2 ea) eb (EvE.mono (l1.trans l2) ev) q3 fun H' m' r' q => k σ H' S2 g m' r' (l1.trans l2) (sl.mono (l1.trans l2)) q

/-! ### {} and d.get, d.pop -/
def dNewD : DTE := fun _ m Q => Q (.loc m.length) (m ++ [.dic []])
theorem d_newD : DE X (.Dict [] [] pos) dNewD := ⟨_, pe_dnewK, fun W S g m σ H Q R r0 sl hq k => fun p hp => by
  obtain ⟨r2, l2, e2⟩ := r0.own (o := .dK []) (d := .dic []) hp fun S' H' l' e' => ⟨[], e', .nil⟩
  exact k _ _ _ (.loc m.length) _ r2 l2 ⟨p, e2, rfl⟩ hq⟩
def onDic (m : Mm) : E → (Nat → List (Key × E) → Prop) → Prop
  | .loc k, Q => match m[k]? with
    | some (.dic es) => Q k es
    | _ => False
  | _, _ => False
theorem onDic_of {K : PySem.W.Frag} {W : Wd} {S : Sd} {m : Mm} {H : Hp} {v : V} {e : E} {Q : Nat → List (Key × E) → Prop} (h : onDic m e Q) (R : Rep K W S m H) (ev : EvE K S v e) :
    ∃ k p ws kvs, e = .loc k ∧ S.A[k]? = some p ∧ v = .ref p ∧ m[k]? = some (.dic kvs) ∧ H p = some (.dK ws) ∧ EvKv K S ws kvs ∧ Q k kvs := by
  cases e with
  | dat d => exact h.elim
  | scr _ => exact h.elim
  | loc k =>
    have h' : (match m[k]? with | some (.dic es) => Q k es | _ => False) := h
    obtain ⟨p, hp, rfl⟩ := ev
    split at h'
    · rename_i es hm
      obtain ⟨vs, hH, er⟩ := R.ok k p _ hp hm
      exact ⟨k, p, vs, es, rfl, hp, rfl, hm, hH, er, h'⟩
    · exact h'.elim
theorem look_none {K : PySem.W.Frag} {S : Sd} : ∀ {ws : List (Key × V)} {kvs : List (Key × E)} {k : Key}, EvKv K S ws kvs → lookD kvs k = none → valV ws k = none
  | [], [], _, _, h => rfl
  | (k1, v) :: ws, (k2, e2) :: kvs, k, .cons hp t, h => by
    have hk : k1 = k2 := hp.1
    subst hk
    have h' : (if k1 = k then some e2 else lookD kvs k) = none := h
    by_cases c : k1 = k
    · rw [if_pos c] at h'
      cases h'
    · rw [if_neg c] at h'
      have := look_none t h'
      unfold valV at this ⊢
      rw [List.find?_cons_of_neg (by simpa using c)]
      exact this
variable {f : Expr} {tf : DTE}
/-- d.get(k): of the ledger -/
def dGet1 (to te : DTE) : DTE := fun g m Q => to g m fun a m1 => onDic m1 a fun _ _ => te g m1 fun e m2 => onD e fun y => onKey y fun ky => onDic m2 a fun _ kvs => match lookD kvs ky with
  | some x => Q x m2
  | none => Q (.dat .none) m2
theorem d_get1 (hu : X.A.units + 1 < cLine) (ho : DE X o to) (he : DE X e te) (hm : M1 X o "get" apos e cpos := by exact ⟨rfl, rfl, rfl, rfl⟩) : DE X (.Call (.Attribute o "get" apos) [e] [] cpos) (dGet1 to te) := by
  obtain ⟨_, p1, s1⟩ := ho.ex
  obtain ⟨_, p2, s2⟩ := he.ex
  refine ⟨_, pe_dget1 hu p1 p2 hm, fun W S g m σ H Q R r0 sl hq k => ?_⟩
  refine s1 W S g m σ H _ _ r0 sl hq fun x H1 S1 a m1 r1 l1 ea q1 => ?_
  obtain ⟨j, p, ws, kvs, rfl, hp, rfl, hm, hH, er, q2⟩ := onDic_of q1 r1 ea
  refine ⟨p, rfl, Or.inl ⟨ws, Or.inl hH⟩, ?_⟩
  refine s2 W S1 g m1 σ H1 _ _ r1 (sl.mono l1) q2 fun y H2 S2 b m2 r2 l2 eb q3 => ?_
  obtain ⟨y', rfl, q4⟩ := onD_of q3
  obtain ⟨ky, rfl, q5⟩ := onKey_of q4
  obtain ⟨j2, p2, ws2, kvs2, ej, hp2, ep, hm2, hH2, er2, q6⟩ := onDic_of q5 r2 (EvE.mono l2 ea)
  cases ej
  cases ep
  cases dv_key eb
  cases hl : lookD kvs2 ky with
  | none =>
    rw [hl] at q6
    exact ⟨none, by rw [← look_none er2 hl]; exact DGet.k hH2, k .non H2 S2 (.dat .none) m2 r2 (l1.trans l2) Dv.non q6⟩
  | some z =>
    rw [hl] at q6
    obtain ⟨v, hv, rv⟩ := look_ev er2 hl
    exact ⟨some v, dGet_of hH2 hv, k v H2 S2 z m2 r2 (l1.trans l2) rv q6⟩
def dropE (kvs : List (Key × E)) (k : Key) : List (Key × E) := kvs.filter fun kv => decide (kv.1 ≠ k)
theorem ev_drop {K : PySem.W.Frag} {S : Sd} {k : Key} : ∀ {ws : List (Key × V)} {kvs : List (Key × E)}, EvKv K S ws kvs → EvKv K S (dropK ws k) (dropE kvs k)
  | _, _, .nil => .nil
  | (k1, v1) :: ws, (k2, e2) :: kvs, .cons h t => by
    have hk : k1 = k2 := h.1
    subst hk
    have ih := ev_drop (k := k) t
    unfold dropK dropE at ih ⊢
    by_cases c : k1 = k
    · rw [List.filter_cons_of_neg (by simp [c]), List.filter_cons_of_neg (by simp [c])]
      exact ih
    · rw [List.filter_cons_of_pos (by simp [c]), List.filter_cons_of_pos (by simp [c])]
      exact .cons h ih
/-- d.pop(k, x) -/
def dPop2 (to te tf : DTE) : DTE := fun g m Q => to g m fun a m1 => onDic m1 a fun _ _ => te g m1 fun e m2 => tf g m2 fun x m3 => onD e fun y => onKey y fun ky => onDic m3 a fun j kvs => match lookD kvs ky with
  | some z => Q z (m3.set j (.dic (dropE kvs ky)))
  | none => Q x m3
theorem d_pop2 (ho : DE X o to) (he : DE X e te) (hf : DE X f tf) (hm : M2 X o "pop" apos e f cpos := by exact ⟨rfl, rfl, rfl, rfl⟩) : DE X (.Call (.Attribute o "pop" apos) [e, f] [] cpos) (dPop2 to te tf) := by
  obtain ⟨_, p1, s1⟩ := ho.ex
  obtain ⟨_, p2, s2⟩ := he.ex
  obtain ⟨_, p3, s3⟩ := hf.ex
  refine ⟨_, pe_dpop2 p1 p2 p3 hm, fun W S g m σ H Q R r0 sl hq k => ?_⟩
  refine s1 W S g m σ H _ _ r0 sl hq fun x H1 S1 a m1 r1 l1 ea q1 => ?_
  obtain ⟨j, p, ws, kvs, rfl, hp, rfl, hm, hH, er, q2⟩ := onDic_of q1 r1 ea
  refine ⟨p, rfl, Or.inl ⟨ws, Or.inl hH⟩, ?_⟩
  refine s2 W S1 g m1 σ H1 _ _ r1 (sl.mono l1) q2 fun y H2 S2 b m2 r2 l2 eb q3 => ?_
  refine s3 W S2 g m2 σ H2 _ _ r2 (sl.mono (l1.trans l2)) q3 fun z H3 S3 c m3 r3 l3 ec q3 => ?_
  obtain ⟨y', rfl, q4⟩ := onD_of q3
  obtain ⟨ky, rfl, q5⟩ := onKey_of q4
  obtain ⟨j2, p2, ws2, kvs2, ej, hp2, ep, hm2, hH2, er2, q6⟩ := onDic_of q5 r3 (EvE.mono (l2.trans l3) ea)
  cases ej
  cases ep
  cases dv_key eb
  have l03 := (l1.trans l2).trans l3
  cases hl : lookD kvs2 ky with
  | none =>
    rw [hl] at q6
    refine ⟨ws2, ky, hH2, rfl, fun v hv => ?_, fun _ => k z H3 S3 c m3 r3 l03 ec q6⟩
    rw [look_none er2 hl] at hv
    cases hv
  | some w =>
    rw [hl] at q6
    obtain ⟨v, hv, rv⟩ := look_ev er2 hl
    refine ⟨ws2, ky, hH2, rfl, fun v' hv' => ?_, fun hn => ?_⟩
    · rw [hv] at hv'
      cases hv'
      exact k v _ S3 w _ (r3.wr (d := .dic (dropE kvs2 ky)) hp2 hm2 (fun z => nomatch z) ⟨_, upd_same, ev_drop er2⟩) l03 rv q6
    · rw [hv] at hn
      cases hn

/-! ### texts -/
abbrev F1 := PyData → (PyData → Prop) → Prop
def OpM0 (K : PySem.W.Frag) (r : V → List V → Hp → VK → Prop) (f : Str → (PyData → Prop) → Prop) : Prop := ∀ (W : Wd) (S : Sd) (m : Mm) (H : Hp) (x : Str) (Q : PyData → Prop) (R : VK), Rep K W S m H → f x Q →
  (∀ v H' S' d, Rep K W S' m H' → Le S S' → Dv K S'.F v d → Q d → R v H') → r (.str x) [] H R
def OpM1 (K : PySem.W.Frag) (r : V → List V → Hp → VK → Prop) (f : Str → PyData → (PyData → Prop) → Prop) : Prop := ∀ (W : Wd) (S : Sd) (m : Mm) (H : Hp) (x : Str) (y : V) (d : PyData) (Q : PyData → Prop) (R : VK), Rep K W S m H → Vw K S.F H y d → f x d Q →
  (∀ v H' S' d, Rep K W S' m H' → Le S S' → Dv K S'.F v d → Q d → R v H') → r (.str x) [y] H R
def dM0 (f : Str → (PyData → Prop) → Prop) (to : DTE) : DTE := fun g m Q => to g m fun a m1 => onD a fun d => onS d fun x => f x fun d => Q (.dat d) m1
def dM1 (f : Str → PyData → (PyData → Prop) → Prop) (to te : DTE) : DTE := fun g m Q => to g m fun a m1 => onD a fun d => onS d fun x => te g m1 fun e m2 => asD m2 e fun y => f x y fun d => Q (.dat d) m2
variable {name : Str} {id : String} {r : V → List V → Hp → VK → Prop}
theorem d_m0 {fn : Str → (PyData → Prop) → Prop} (slot : Slot "str" name id) (ty : typeOf (.builtin id) = pure (.type "method_descriptor")) (rule : MtR X id r) (h : OpM0 X.K r fn) (ho : DE X o to)
    (hbase : attributeBase o name X.env (eval o X.env) = eval o X.env := by rfl) (hline : (apos.endLine == pos.line) = true := by rfl) : DE X (.Call (.Attribute o name apos) [] [] pos) (dM0 fn to) := by
  obtain ⟨_, p1, s1⟩ := ho.ex
  refine ⟨_, pe_m0 slot ty rule p1 hbase hline, fun W S g m σ H Q R r0 sl hq k => ?_⟩
  refine s1 W S g m σ H _ _ r0 sl hq fun x H1 S1 a m1 r1 l1 ea q1 => ?_
  obtain ⟨a', rfl, q2⟩ := onD_of q1
  obtain ⟨z, rfl, q3⟩ := onS_of q2
  cases dv_str ea
  exact ⟨⟨z, rfl⟩, h W S1 m1 H1 z _ R r1 q3 fun v H2 S2 d r2 l2 ed q4 => k v H2 S2 (.dat d) m1 r2 (l1.trans l2) ed q4⟩
theorem d_m1 {fn : Str → PyData → (PyData → Prop) → Prop} (slot : Slot "str" name id) (ty : typeOf (.builtin id) = pure (.type "method_descriptor")) (rule : MtR X id r) (h : OpM1 X.K r fn) (ho : DE X o to) (he : DE X e te)
    (hs : starEach [e] X.env = [(false, eval e X.env)] := by rfl) (hbase : attributeBase o name X.env (eval o X.env) = eval o X.env := by rfl) (hline : (apos.endLine == pos.line) = true := by rfl) : DE X (.Call (.Attribute o name apos) [e] [] pos) (dM1 fn to te) := by
  obtain ⟨_, p1, s1⟩ := ho.ex
  obtain ⟨_, p2, s2⟩ := he.ex
  refine ⟨_, pe_m1 slot ty rule p1 p2 hs hbase hline, fun W S g m σ H Q R r0 sl hq k => ?_⟩
  refine s1 W S g m σ H _ _ r0 sl hq fun x H1 S1 a m1 r1 l1 ea q1 => ?_
  obtain ⟨a', rfl, q2⟩ := onD_of q1
  obtain ⟨z, rfl, q3⟩ := onS_of q2
  cases dv_str ea
  refine ⟨⟨z, rfl⟩, s2 W S1 g m1 σ H1 _ _ r1 (sl.mono l1) q3 fun y H2 S2 b m2 r2 l2 eb q4 => ?_⟩
  obtain ⟨d, hd, q5⟩ := asD_of q4 r2 eb
  exact h W S2 m2 H2 z y d _ R r2 hd q5 fun v H3 S3 d r3 l3 ed q6 => k v H3 S3 (.dat d) m2 r3 ((l1.trans l2).trans l3) ed q6
end
section
variable {K : PySem.W.Frag}
def fUpper : Str → (PyData → Prop) → Prop := fun x Q => x.length ≤ 5592405 ∧ Q (.str (Txt.upper x))
def fLower : Str → (PyData → Prop) → Prop := fun x Q => x.length ≤ 5592405 ∧ Q (.str (Txt.lower x))
theorem opM_upper : OpM0 K (fun x xs H Q => ∃ a, x = .str a ∧ xs = [] ∧ a.length ≤ 5592405 ∧ Q (.str (Txt.upper a)) H) fUpper := fun W S m H x Q R r q k => ⟨x, rfl, rfl, q.1, k _ H S _ r (Le.refl S) (.str _) q.2⟩
theorem opM_lower : OpM0 K (fun x xs H Q => ∃ a, x = .str a ∧ xs = [] ∧ a.length ≤ 5592405 ∧ Q (.str (Txt.lower a)) H) fLower := fun W S m H x Q R r q k => ⟨x, rfl, rfl, q.1, k _ H S _ r (Le.refl S) (.str _) q.2⟩
def fSplit : Str → PyData → (PyData → Prop) → Prop := fun x d Q => onS d fun y => (y.length == 0) = false ∧ x.length + 2 ≤ sizeLine ∧ Q (.list ((Txt.split x y).map .str))
theorem opM_split : OpM1 K (fun x xs H Q => ∃ a b, x = .str a ∧ xs = [.str b] ∧ (b.length == 0) = false ∧ a.length + 2 ≤ sizeLine ∧ rNewStrs (Txt.split a b) H Q) fSplit := by
  intro W S m H x y d Q R r hd q k
  obtain ⟨z, rfl, h1, h2, q⟩ := onS_of q
  cases vw_str hd
  exact ⟨x, z, rfl, rfl, h1, h2, new_lst r (strs_dv _) fun v H' S' d r1 l1 e1 e => k v H' S' d r1 l1 e1 (by rw [e]; exact q)⟩
def fFind : Str → PyData → (PyData → Prop) → Prop := fun x d Q => onS d fun y => Q (.int (Txt.find x y))
theorem opM_find : OpM1 K (fun x xs H Q => ∃ a b, x = .str a ∧ xs = [.str b] ∧ Q (.int (Txt.find a b)) H) fFind := by
  intro W S m H x y d Q R r hd q k
  obtain ⟨z, rfl, q⟩ := onS_of q
  cases vw_str hd
  exact ⟨x, z, rfl, rfl, k _ H S _ r (Le.refl S) (.int _) q⟩
def fJoin : Str → PyData → (PyData → Prop) → Prop := fun x d Q => match d with
  | .list ds => strsD ds fun ys => (ys.map (·.length)).sum + ys.length * x.length ≤ 16777216 ∧ Q (.str (Txt.join x ys))
  | .tuple ds => strsD ds fun ys => (ys.map (·.length)).sum + ys.length * x.length ≤ 16777216 ∧ Q (.str (Txt.join x ys))
  | _ => False
theorem opM_join : OpM1 K (fun x xs H Q => ∃ a p, ∃ ys : List Str, x = .str a ∧ xs = [.ref p] ∧ (SqL K H p (ys.map V.str) ∨ SqT K H p (ys.map V.str)) ∧ (ys.map (·.length)).sum + ys.length * a.length ≤ 16777216 ∧ Q (.str (Txt.join a ys)) H) fJoin := by
  intro W S m H x y d Q R r hd q k
  match d, hd, q with
  | .list ds, hd, q =>
    obtain ⟨p, us, rfl, hH, hA⟩ := vw_lst r.sub hd
    obtain ⟨bs, rfl, hz, q2⟩ := strsD_of q
    rw [dv_strs hA] at hH
    exact ⟨x, p, bs, rfl, rfl, Or.inl (Or.inl (Or.inl hH)), hz, k _ H S _ r (Le.refl S) (.str _) q2⟩
  | .tuple ds, hd, q =>
    obtain ⟨p, us, rfl, hH, hA⟩ := vw_tup r.sub hd
    obtain ⟨bs, rfl, hz, q2⟩ := strsD_of q
    rw [dv_strs hA] at hH
    exact ⟨x, p, bs, rfl, rfl, Or.inr hH, hz, k _ H S _ r (Le.refl S) (.str _) q2⟩
end

/-! ### a list of the ledger becomes a datum -/
def frG (k : Nat) (d : PyData) (g : Gm) : Gm := g.map (Option.map (frE k d))
theorem frE_ev {K : PySem.W.Frag} {S S' : Sd} {k : Nat} {p : Addr} {d : PyData} (l : Le S S') (hk : S.A[k]? = some p) (hd : Dv K S'.F (.ref p) d) : ∀ {v : V} {e : E}, EvE K S v e → EvE K S' v (frE k d e)
  | _, .dat _, h => EvE.mono (e := .dat _) l h
  | _, .scr _, ⟨a, e, h⟩ => ⟨a, e, l.f.sl h⟩
  | v, .loc j, ⟨q, hq, e⟩ => by
    show EvE K S' v (if j = k then .dat d else .loc j)
    by_cases c : j = k
    · subst c
      rw [if_pos rfl]
      rw [hk] at hq
      cases hq
      rw [e]
      exact hd
    · rw [if_neg c]
      exact ⟨q, pre_get l.a hq, e⟩
theorem frO_ok {K : PySem.W.Frag} {S S' : Sd} {H : Hp} {k : Nat} {p q : Addr} {d : PyData} (l : Le S S') (hk : S.A[k]? = some p) (hd : Dv K S'.F (.ref p) d) : ∀ {o : OD}, OkO K S H q o → OkO K S' H q (frO k d o)
  | .lst es, ⟨vs, h, r⟩ => ⟨vs, h, by
    clear h
    induction r with
    | nil => exact .nil
    | cons r t ih => exact .cons (frE_ev l hk hd r) ih⟩
  | .dic es, ⟨vs, h, r⟩ => ⟨vs, h, by
    clear h
    induction r with
    | nil => exact .nil
    | cons r t ih => exact .cons ⟨r.1, frE_ev l hk hd r.2⟩ ih⟩
  | .ins C es, ⟨dx, vs, h, f, r⟩ => ⟨dx, vs, h, l.f _ _ f, by
    clear h f
    induction r with
    | nil => exact .nil
    | cons r t ih => exact .cons ⟨r.1, frE_ev l hk hd r.2⟩ ih⟩
  | .gone, _ => trivial
theorem frO_gone {k : Nat} {d : PyData} {o : OD} (h : frO k d o ≠ .gone) : o ≠ .gone := fun e => h (by rw [e]; rfl)
/-- the k-th thing, a list of data, will not change any more; then the statement -/
def dFrz (k : Nat) (t : DTS) : DTS := fun D g m => onLst' m (.loc k) fun _ es => allD es fun ds => t D (frG k (.list ds) g) ((m.set k .gone).map (frO k (.list ds)))
section
variable {X : Cx} {st : Stmt} {sts : List Stmt} {t : DTS}
theorem snd_frz {K : PySem.W.Frag} {ts : TS} (k : Nat) (s : SndS K ts t) : SndS K ts (dFrz k t) := by
  intro W S g m σ H D R r0 sl hq kk
  have h' : (match m[k]? with | some (.lst es) => allD es fun ds => t D (frG k (.list ds) g) ((m.set k .gone).map (frO k (.list ds))) | _ => False) := hq
  split at h'
  · rename_i es hm
    obtain ⟨ds, rfl, q⟩ := allD_of h'
    have hkl : k < S.A.length := by
      rw [r0.len]
      exact (List.getElem?_eq_some_iff.mp hm).1
    obtain ⟨p, hp⟩ : ∃ p, S.A[k]? = some p := ⟨_, List.getElem?_eq_getElem hkl⟩
    obtain ⟨vs, hH, er⟩ := r0.ok k p _ hp hm
    obtain ⟨r1, l1⟩ := r0.still hp hm (fun z => nomatch z) hH
    have hd : Dv K (upd S.F p (.lst vs)) (.ref p) (.list ds) := .lst upd_same (DvAll.mono l1.f (evs_dat er))
    have r2 : Rep K W ⟨upd S.F p (.lst vs), S.A⟩ ((m.set k .gone).map (frO k (.list ds))) H := by
      refine ⟨by rw [List.length_map]; exact r1.len, r1.nd, r1.sub, fun j q o hj hm' ho => ?_, r1.live, fun j q o hj hm' => ?_, r1.kept, r1.mine, r1.fnew, r1.pre⟩
      · rw [List.getElem?_map] at hm'
        cases e : (m.set k .gone)[j]? with
        | none =>
          rw [e] at hm'
          cases hm'
        | some o' =>
          rw [e] at hm'
          cases hm'
          exact r1.off j q o' hj e (frO_gone ho)
      · rw [List.getElem?_map] at hm'
        cases e : (m.set k .gone)[j]? with
        | none =>
          rw [e] at hm'
          cases hm'
        | some o' =>
          rw [e] at hm'
          cases hm'
          exact frO_ok (S := ⟨upd S.F p (.lst vs), S.A⟩) (Le.refl _) hp hd (r1.ok j q o' hj e)
    have sl2 : Sl K ⟨upd S.F p (.lst vs), S.A⟩ σ (frG k (.list ds) g) := by
      refine ⟨by unfold frG; rw [List.length_map]; exact sl.len, fun i e he => ?_⟩
      unfold frG at he
      rw [List.getElem?_map] at he
      cases hg : g[i]? with
      | none =>
        rw [hg] at he
        cases he
      | some x =>
        rw [hg] at he
        cases x with
        | none => cases he
        | some e0 =>
          cases he
          obtain ⟨v, hv, rv⟩ := sl.at_ i e0 hg
          exact ⟨v, hv, frE_ev l1 hp hd rv⟩
    exact s W _ _ _ σ H D R r2 sl2 q (kk.le l1)
  · exact h'.elim
theorem ds_frz (k : Nat) (h : DS X st t) : DS X st (dFrz k t) := by
  obtain ⟨_, p, s⟩ := h.ex
  exact ⟨_, p, snd_frz k s⟩
theorem dss_frz (k : Nat) (h : DSs X sts t) : DSs X sts (dFrz k t) := by
  obtain ⟨_, p, s⟩ := h.ex
  exact ⟨_, p, snd_frz k s⟩
/-- forget the slots that are not asked any more -/
def dForget (is : List Nat) (t : DTS) : DTS := fun D g m => t D (wipeG g is) m
theorem wipeG_len (g : Gm) : ∀ is : List Nat, (wipeG g is).length = g.length
  | [] => rfl
  | i :: is => by
    unfold wipeG
    rw [List.length_set, wipeG_len g is]
theorem wipeG_some {g : Gm} {i : Nat} {e : E} : ∀ {is : List Nat}, (wipeG g is)[i]? = some (some e) → g[i]? = some (some e)
  | [], h => h
  | j :: is, h => by
    unfold wipeG at h
    by_cases c : j = i
    · subst c
      by_cases hj : j < (wipeG g is).length
      · rw [List.getElem?_set_self hj] at h
        cases h
      · rw [List.getElem?_eq_none (by rw [List.length_set]; omega)] at h
        cases h
    · rw [List.getElem?_set_ne c] at h
      exact wipeG_some h
theorem ds_forget (is : List Nat) (h : DS X st t) : DS X st (dForget is t) := by
  obtain ⟨_, p, s⟩ := h.ex
  exact ⟨_, p, fun W S g m σ H D R r0 sl hq k => s W S _ m σ H D R r0 (sl.less (wipeG_len g is) fun i e q => wipeG_some q) hq k⟩
end

/-! ### comprehensions -/
section
variable {X : Cx} {scope : Scope} {e c iter tg : Expr} {te : DTE} {dt : DTT} {dg : DTG} {ti : DTI} {vs : List Nat}
theorem ce_of (h : ∀ (s : Shared) (H : Hp) (C : Addr) (cl : List (Str × Addr)) (fp : List Addr), DE (X.blk s H scope (compEnvC scope cl C X.env) fp) e te) : CE' X scope e te :=
  ⟨fun σ H Q => ∀ s H0 C cl fp, Classical.choose (h s H0 C cl fp).ex σ H Q, fun s H C cl fp => ⟨fun pins s' σ H' Q I hq => (Classical.choose_spec (h s H C cl fp).ex).1.run pins s' σ H' Q I (hq s H C cl fp)⟩,
    fun W S g m σ H Q R r sl hq k s H0 C cl fp => (Classical.choose_spec (h s H0 C cl fp).ex).2 W S g m σ H Q R r sl hq k⟩
theorem ct_nil : CT X scope [] (fun _ m Q => Q true m) := ⟨tYes, fun _ _ _ _ _ => pts_nil, fun W S g m σ H Q R r sl hq k => k true H S m r (Le.refl S) hq⟩
theorem ct_one (h : ∀ (s : Shared) (H : Hp) (C : Addr) (cl : List (Str × Addr)) (fp : List Addr), DT (X.blk s H scope (compEnvC scope cl C X.env) fp) c dt) : CT X scope [c] dt :=
  ⟨fun σ H Q => ∀ s H0 C cl fp, Classical.choose (h s H0 C cl fp).ex σ H Q, fun s H C cl fp => pts_one ⟨fun pins s' σ H' Q I hq => (Classical.choose_spec (h s H C cl fp).ex).1.run pins s' σ H' Q I (hq s H C cl fp)⟩,
    fun W S g m σ H Q R r sl hq k s H0 C cl fp => (Classical.choose_spec (h s H0 C cl fp).ex).2 W S g m σ H Q R r sl hq k⟩
theorem snd_gname {K : PySem.W.Frag} (i : Nat) : SndG K (gName i) (dgName i) := fun W S g m σ H v e Q R r0 sl ev hq k => k _ H S _ m r0 (Le.refl S) (sl.set ev) hq
theorem cg_name {i : Nat} {x : Str} {p : Pos} (hN : X.N.Nodup) (hi : X.N[i]? = some x := by rfl) (hx : Loc (relS scope X.env.scope) x := by first | exact Or.inl rfl | exact Or.inr rfl)
    (hf : (scope.names.lookup x == some .cell) = true ∨ (relS scope X.env.scope).names.lookup x = some .local := by first | exact .inr rfl | exact .inl rfl) : CG X scope (.Name x p) [i] (dgName i) :=
  ⟨gName i, fun s H C cl fp => pg_name (X := X.blk s H scope (compEnvC scope cl C X.env) fp) hN hi hx hf, snd_gname i, gonly1 i⟩
theorem snd_two {K : PySem.W.Frag} (i j : Nat) : SndG K (gTup K 2 (gCons (gName i) (gCons (gName j) gNil))) (dgTup 2 (dgCons (dgName i) (dgCons (dgName j) dgNil))) := by
  intro W S g m σ H v e Q R r0 sl ev hq k
  obtain ⟨ds, rfl, hl, q⟩ := onTup_of hq
  obtain ⟨a, xs, rfl, hT, hA⟩ := dv_tup ev
  cases hA with
  | nil => simp at hl
  | cons ha t =>
    cases t with
    | nil => simp at hl
    | cons hb t2 =>
      cases t2 with
      | cons _ _ => simp at hl
      | nil =>
        have q' : ([] : List E) = [] ∧ Q ((g.set i (some (.dat _))).set j (some (.dat _))) m := q
        exact ⟨a, _, rfl, r0.sub.st hT, rfl, _, _, rfl, _, _, rfl, rfl, k _ H S _ m r0 (Le.refl S) ((sl.set (e := .dat _) ha).set (e := .dat _) hb) q'.2⟩
theorem cg_two {i j : Nat} {x y : Str} {p p2 p3 : Pos} {kt : Nat} (hc : X.calm = true) (hN : X.N.Nodup) (hij : i ≠ j := by decide) (hi : X.N[i]? = some x := by rfl) (hj : X.N[j]? = some y := by rfl) (hx : Loc (relS scope X.env.scope) x := by first | exact Or.inl rfl | exact Or.inr rfl) (hy : Loc (relS scope X.env.scope) y := by first | exact Or.inl rfl | exact Or.inr rfl)
    (hfx : (scope.names.lookup x == some .cell) = true ∨ (relS scope X.env.scope).names.lookup x = some .local := by first | exact .inr rfl | exact .inl rfl) (hfy : (scope.names.lookup y == some .cell) = true ∨ (relS scope X.env.scope).names.lookup y = some .local := by first | exact .inr rfl | exact .inl rfl)
    (hn : ∀ env : Env, (assignEach [.Name x p, .Name y p2] env).length = 2 := by intro _; rfl) (hst : ∀ env : Env, (assignEach [.Name x p, .Name y p2] env).findIdx? (·.1) = none := by intro _; rfl) :
    CG X scope (.Tuple [.Name x p, .Name y p2] kt p3) [i, j] (dgTup 2 (dgCons (dgName i) (dgCons (dgName j) dgNil))) := by
  refine ⟨gTup X.K 2 (gCons (gName i) (gCons (gName j) gNil)), fun s H C cl fp => ?_, snd_two i j, gonly2 hij⟩
  have g1 : PG (X.blk s H scope (compEnvC scope cl C X.env) fp) (.Name x p) (gName i) := pg_name (X := X.blk s H scope (compEnvC scope cl C X.env) fp) hN hi hx hfx
  have g2 : PG (X.blk s H scope (compEnvC scope cl C X.env) fp) (.Name y p2) (gName j) := pg_name (X := X.blk s H scope (compEnvC scope cl C X.env) fp) hN hj hy hfy
  exact pg_tup (X := X.blk s H scope (compEnvC scope cl C X.env) fp) hc (pgs_cons g1 (pgs_cons g2 pgs_nil)) (hn _) (hst _)
variable {ifs : List Expr} {own : List (Str × Nat)} {pos : Pos}
theorem d_lc (own : List (Str × Nat)) (hc : X.calm = true) (hN : X.N.Nodup) (hi : DI X tg iter ti) (ok : BlkOk X.N X.env.scope scope own) (hg : CG X scope tg (own.map (·.2)) dg) (ht : CT X scope ifs dt) (he : CE' X scope e te)
    (hs : ∀ x, foldedSetIterable iter X.env x = pure x := by intro _; rfl) : DE X (.ListComp e [⟨tg, iter, ifs, 0⟩] scope pos) (dLc ti dg dt te (own.map (·.2))) := by
  obtain ⟨_, pi, si⟩ := hi.ex
  obtain ⟨_, pg, sg, og⟩ := hg.ex
  obtain ⟨_, pt, st⟩ := ht.ex
  obtain ⟨_, pe, se⟩ := he.ex
  exact ⟨_, pe_lc hc hN pi ok pg pt pe hs, snd_lc si sg og st se⟩
theorem ds_setLc (own : List (Str × Nat)) {i : Nat} {y : Str} {py spos : Pos} (hc : X.calm = true) (hN : X.N.Nodup) (hi : DI X tg iter ti) (ok : BlkOk X.N X.env.scope scope own) (hg : CG X scope tg (own.map (·.2)) dg) (ht : CT X scope ifs dt) (he : CE' X scope e te)
    (hsw : swapsWith (.ListComp e [⟨tg, iter, ifs, 0⟩] scope pos) (some (.Name y py)) spos.line X.env = pure true) (hy : X.N[i]? = some y := by rfl) (hyl : X.env.scope.names.lookup y = some .local := by rfl)
    (hs : ∀ x, foldedSetIterable iter X.env x = pure x := by intro _; rfl) : DS X (.Assign [.Name y py] (.ListComp e [⟨tg, iter, ifs, 0⟩] scope pos) spos) (dAsg (dLc ti dg dt te (own.map (·.2))) (dgName i)) := by
  obtain ⟨_, pi, si⟩ := hi.ex
  obtain ⟨_, pg, sg, og⟩ := hg.ex
  obtain ⟨_, pt, st⟩ := ht.ex
  obtain ⟨_, pe, se⟩ := he.ex
  refine ⟨_, ps_setLc hc hN hy hyl hsw pi ok pg pt pe hs, fun W S g m σ H D R r0 sl hq k => ?_⟩
  exact snd_lc si sg og st se W S g m σ H _ _ r0 sl hq fun v H1 S1 e m1 r1 l1 ev q1 => k.nx _ H1 S1 _ m1 r1 l1 ((sl.mono l1).set ev) q1
end
end DL
/-! DLh: more forms of expressions; repr with dicts; the end of a law. -/
namespace DL
open PySem PySem.Spec PyProof.Rows L2

section
variable {X : Cx} {tg e e1 e2 e3 : Expr} {te t1 t2 t3 : DTE} {pos p : Pos}
/-! ### sign by sign -/
def signsD (x : Str) : List PyData := x.cps.toList.map fun c => .str ⟨#[c]⟩
def diS (te : DTE) : DTI := fun g m Q => te g m fun e m1 => onD e fun d => onS d fun x => Q (signsD x) m1
theorem yld_str {K : PySem.W.Frag} {S : Sd} (x : Str) : Yld K (Its x) S (signsD x) := by
  intro W S1 m1 H1 l r
  have hl : (signsD x).length = x.cps.size := by
    unfold signsD
    rw [List.length_map, Array.length_toList]
  refine ⟨fun i d hd => ?_, by rw [hl]; exact Nat.le_refl _⟩
  unfold signsD at hd
  rw [List.getElem?_map, Array.getElem?_toList] at hd
  cases hc : x.cps[i]? with
  | none =>
    rw [hc] at hd
    cases hd
  | some c =>
    rw [hc] at hd
    have e : PyData.str ⟨#[c]⟩ = d := Option.some.inj hd
    subst e
    refine ⟨?_, fun v H2 y => ?_⟩
    · show i < x.cps.size
      exact (Array.getElem?_eq_some_iff.mp hc).1
    · obtain ⟨e, c', hc', ev⟩ := y
      subst e
      rw [hc] at hc'
      cases hc'
      subst ev
      exact ⟨S1, r, Le.refl _, .str _⟩
theorem di_str (h : DE X e te) : DI X tg e (diS te) := by
  obtain ⟨_, p, s⟩ := h.ex
  refine ⟨_, pi_str p, fun W S g m σ H Q R r0 sl hq k => ?_⟩
  refine s W S g m σ H _ _ r0 sl hq fun v H1 S1 e m1 r1 l1 ev q1 => ?_
  obtain ⟨d, rfl, q2⟩ := onD_of q1
  obtain ⟨x, rfl, q3⟩ := onS_of q2
  exact ⟨x, dv_str ev, k _ H1 S1 _ m1 r1 l1 (yld_str x) q3⟩

/-! ### a < b < c, -a -/
def dChain (f f' : F2) (ta tb tc : DTE) : DTE := fun g m Q => ta g m fun a m1 => tb g m1 fun b m2 => asD m2 a fun x => asD m2 b fun y => f x y fun z => onB z fun k =>
  if k = true then tc g m2 fun c m3 => asD m3 b fun y' => asD m3 c fun w => f' y' w fun d => Q (.dat d) m3 else Q (.dat (.bool false)) m2
theorem snd_chain {K : PySem.W.Frag} {r r' : R2} {f f' : F2} {ta tb tc : TE} {da db dc : DTE} (h : Op2 K r f) (h' : Op2 K r' f') (ha : Snd K ta da) (hb : Snd K tb db) (hc : Snd K tc dc) : Snd K (tChain r r' ta tb tc) (dChain f f' da db dc) := by
  intro W S g m σ H Q R r0 s hq k
  refine ha W S g m σ H _ _ r0 s hq fun x H1 S1 a m1 r1 l1 ea q1 => ?_
  refine hb W S1 g m1 σ H1 _ _ r1 (s.mono l1) q1 fun y H2 S2 b m2 r2 l2 eb q2 => ?_
  obtain ⟨a', va, q3⟩ := asD_of q2 r2 (EvE.mono l2 ea)
  obtain ⟨b', vb, q4⟩ := asD_of q3 r2 eb
  refine h W S2 m2 H2 x y a' b' _ _ r2 va vb q4 fun v H3 S3 d r3 l3 ed q5 => ?_
  obtain ⟨b2, rfl, q6⟩ := onB_of q5
  refine ⟨b2, dv_bl ed, ?_⟩
  have l03 := (l1.trans l2).trans l3
  cases b2 with
  | false => exact k _ H3 S3 (.dat (.bool false)) m2 r3 l03 (Dv.bl _) q6
  | true =>
    refine hc W S3 g m2 σ H3 _ _ r3 (s.mono l03) q6 fun w H4 S4 c m4 r4 l4 ec q7 => ?_
    obtain ⟨b'', vb', q8⟩ := asD_of q7 r4 (EvE.mono (l3.trans l4) eb)
    obtain ⟨c', vc, q9⟩ := asD_of q8 r4 ec
    exact h' W S4 m4 H4 y w b'' c' _ _ r4 vb' vc q9 fun v H5 S5 d r5 l5 ed q => k v H5 S5 (.dat d) m4 r5 ((l03.trans l4).trans l5) ed q
theorem d_chain {op op' : CmpOp} {r r' : R2} {f f' : F2} (ho : OpR X (compareOp op) r) (h : Op2 X.K r f) (ho' : OpR X (compareOp op') r') (h' : Op2 X.K r' f') (ha : DE X e1 t1) (hb : DE X e2 t2) (hc : DE X e3 t3)
    (hm : lastMarks [op, op'] [e2, e3] = false := by with_unfolding_all rfl) : DE X (.Compare e1 [op, op'] [e2, e3] pos) (dChain f f' t1 t2 t3) := by
  obtain ⟨_, p1, s1⟩ := ha.ex
  obtain ⟨_, p2, s2⟩ := hb.ex
  obtain ⟨_, p3, s3⟩ := hc.ex
  exact ⟨_, pe_chain ho ho' p1 p2 p3 hm, snd_chain h h' s1 s2 s3⟩
theorem dt_chain {op op' : CmpOp} {r r' : R2} {f f' : F2} (ho : OpR X (compareOp op) r) (h : Op2 X.K r f) (ho' : OpR X (compareOp op') r') (h' : Op2 X.K r' f') (ha : DE X e1 t1) (hb : DE X e2 t2) (hc : DE X e3 t3)
    (hm : lastMarks [op, op'] [e2, e3] = false := by with_unfolding_all rfl) : DT X (.Compare e1 [op, op'] [e2, e3] pos) (dB (dChain f f' t1 t2 t3)) := by
  obtain ⟨_, p1, s1⟩ := ha.ex
  obtain ⟨_, p2, s2⟩ := hb.ex
  obtain ⟨_, p3, s3⟩ := hc.ex
  exact ⟨_, pt_chain ho ho' p1 p2 p3 hm, snd_T (snd_chain h h' s1 s2 s3)⟩
def dNeg (ta : DTE) : DTE := fun g m Q => ta g m fun a m1 => onD a fun d => onI d fun i => Q (.dat (.int (-i))) m1
theorem d_neg (h : DE X e te) : DE X (.UnaryOp .USub e pos) (dNeg te) := by
  obtain ⟨_, p, s⟩ := h.ex
  refine ⟨_, pe_un un_neg p, fun W S g m σ H Q R r0 sl hq k => ?_⟩
  refine s W S g m σ H _ _ r0 sl hq fun v H1 S1 e m1 r1 l1 ev q1 => ?_
  obtain ⟨d, rfl, q2⟩ := onD_of q1
  obtain ⟨i, rfl, q3⟩ := onI_of q2
  exact ⟨i, dv_int ev, k _ H1 S1 (.dat (.int (-i))) m1 r1 l1 (Dv.int _) q3⟩

/-! ### a, b, c = x, y, z -/
def dPar3 (i j l : Nat) (ta : DTA) : DTS := fun D g m => ta g m fun es m1 => match es with
  | [a, b, c] => D.nx (((g.set i (some a)).set j (some b)).set l (some c)) m1
  | _ => False
theorem ds_par3 {i j l : Nat} {x y z : Str} {a b c : Expr} {ta : DTA} {px py pz pt : Pos} {kt k2 pt2} (hc : X.calm = true) (hN : X.N.Nodup) (h : DA X [a, b, c] ta) (hi : X.N[i]? = some x := by rfl) (hj : X.N[j]? = some y := by rfl) (hl : X.N[l]? = some z := by rfl) (hij : i ≠ j := by decide) (hil : i ≠ l := by decide) (hjl : j ≠ l := by decide)
    (hx : X.env.scope.names.lookup x = some .local := by rfl) (hy : X.env.scope.names.lookup y = some .local := by rfl) (hz : X.env.scope.names.lookup z = some .local := by rfl)
    (hw : swappedStores [.Tuple [.Name x px, .Name y py, .Name z pz] kt pt] (.Tuple [a, b, c] k2 pt2) X.env = pure (some [x, y, z]) := by rfl)
    (hs : swapsWithSole [.Tuple [.Name x px, .Name y py, .Name z pz] kt pt] (.Tuple [a, b, c] k2 pt2) pos.line X.env = pure false := by rfl) :
    DS X (.Assign [.Tuple [.Name x px, .Name y py, .Name z pz] kt pt] (.Tuple [a, b, c] k2 pt2) pos) (dPar3 i j l ta) := by
  obtain ⟨_, p, s⟩ := h.ex
  refine ⟨_, ps_par3 hc hN hi hj hl hij hil hjl hx hy hz p hw hs, fun W S g m σ H D R r0 sl hq k => ?_⟩
  refine s W S g m σ H _ _ r0 sl hq fun vs H1 S1 es m1 r1 l1 er q1 => ?_
  match es, vs, er, q1 with
  | [a, b, c], [u, v, w], .cons ha (.cons hb (.cons hc .nil)), q1 => exact ⟨u, v, w, rfl, k.nx _ H1 S1 _ m1 r1 l1 ((((sl.mono l1).set ha).set hb).set hc) q1⟩
end

/-! ### f(k = v, ..) -/
section
variable {X : Cx} {CX : CXT} {k n : Nat} {f : Addr} {fd : FuncData} {ps ks : List Str} {ds : DSp} {Xe : XK} {x : Str} {p pos : Pos} {kws : List Keyword} {tk : DTA} {tkr : TA} {sp : Sp}
theorem pe_callKG0 {g : List Value → List Value → List Value} {gV : List V → List V → List V} (F : FnG X.prog X.w X.K X.mg X.base CX k f fd ps sp) (hG : X.A.guards = some []) (hr : Room k X.A) (hm : X.mg x = some (.ref f)) (hk : PySem.W.keepIn X.K (.ref f) = true)
    (hb : KBinds X.K fd ps ks g gV) (hx : Passes CX X Xe) (hkw : PK X kws tkr) (hg : Gl X x := by rfl) (hall : (backToKw pos (keywordEach kws X.env)).all (·.1.isSome) = true := by rfl) (hks : (backToKw pos (keywordEach kws X.env)).filterMap (·.1) = ks := by rfl)
    (hdb : (x == ("__debug__" : Str)) = false := by decide) (hpl : ((backTo pos (starEach [] X.env)).any (·.1) || (backToKw pos (keywordEach kws X.env)).any (·.1.isNone)) = false := by rfl) :
    PE X (.Call (.Name x p) [] kws pos) (tCallK sp gV Xe tNil tkr) := ⟨fun pins s σ H Q I h => by
  refine wpAny_Call_Name_kw (ld_glob I hg hm ?_ hdb)
  refine PySem.W.callWith_KW0 (h₀ := X.base) I.ok.mod.kin hk hall (thn (hkw.run pos pins s σ H _ I h) fun ws s2 ⟨zs, H2, I2, rz, q2⟩ => ⟨I2.kIn, ?_⟩) hpl
  rw [hks]
  exact run_fnkG (us := []) F hG hr hb hx I2 .nil rz q2⟩
/-- na positional arguments, nb by keyword, in the order pi -/
def gK (na nb : Nat) (pi : List Nat) {α : Type} (a b : List α) : List α := if a.length = na ∧ b.length = nb then pi.filterMap fun i => (a ++ b)[i]? else []
theorem paired_get {α β : Type} {R : α → β → Prop} : ∀ {a : List α} {b : List β} (i : Nat), Paired R a b → (a[i]? = none ∧ b[i]? = none) ∨ ∃ x y, a[i]? = some x ∧ b[i]? = some y ∧ R x y
  | _, _, _, .nil => Or.inl ⟨rfl, rfl⟩
  | _, _, 0, .cons h t => Or.inr ⟨_, _, rfl, rfl, h⟩
  | _, _, i + 1, .cons h t => paired_get i t
theorem paired_app {α β : Type} {R : α → β → Prop} : ∀ {a c : List α} {b d : List β}, Paired R a b → Paired R c d → Paired R (a ++ c) (b ++ d)
  | _, _, _, _, .nil, h => h
  | _, _, _, _, .cons h t, h' => .cons h (paired_app t h')
theorem gK_rel {α β : Type} {R : α → β → Prop} {na nb : Nat} {pi : List Nat} {a c : List α} {b d : List β} (h : Paired R a b) (h' : Paired R c d) : Paired R (gK na nb pi a c) (gK na nb pi b d) := by
  unfold gK
  rw [Paired.length h, Paired.length h']
  split
  · have hp := paired_app h h'
    induction pi with
    | nil => exact .nil
    | cons i pi ih =>
      rw [List.filterMap_cons, List.filterMap_cons]
      rcases paired_get i hp with ⟨e1, e2⟩ | ⟨x, y, e1, e2, r⟩
      · rw [e1, e2]
        exact ih
      · rw [e1, e2]
        exact .cons r ih
  · exact .nil
theorem kb_of {K : PySem.W.Frag} {na nb : Nat} {pi : List Nat} (h : ∀ (s : Shared) (us ws : List Value), us.length = na → ws.length = nb → BindsTo s fd ⟨us, ks.zip ws⟩ (ps.zip (gK na nb pi us ws))) (h0 : ps ≠ []) : KB K fd ps ks (gK na nb pi) := by
  refine ⟨⟨fun s us ws _ hl => ?_, fun {vs us zs ws} r r' => gK_rel (R := RelV) r r'⟩, fun S {vs zs es fs} r r' => gK_rel (R := EvE K S) r r'⟩
  by_cases c : us.length = na ∧ ws.length = nb
  · exact h s us ws c.1 c.2
  · exfalso
    unfold gK at hl
    rw [if_neg c] at hl
    exact h0 (List.eq_nil_of_length_eq_zero hl.symm)
theorem d_callK0 (n : Nat) {G : {α : Type} → List α → List α → List α} (F : FnD X.prog X.w X.K X.mg X.base k f fd ps ds) (hG : X.A.guards = some []) (hr : Room k X.A) (hm : X.mg x = some (.ref f)) (hk : PySem.W.keepIn X.K (.ref f) = true) (hb : KB X.K fd ps ks G)
    (hkw : DK X kws tk) (hg : Gl X x := by rfl) (hall : (backToKw pos (keywordEach kws X.env)).all (·.1.isSome) = true := by rfl) (hks : (backToKw pos (keywordEach kws X.env)).filterMap (·.1) = ks := by rfl)
    (hdb : (x == ("__debug__" : Str)) = false := by decide) (hpl : ((backTo pos (starEach [] X.env)).any (·.1) || (backToKw pos (keywordEach kws X.env)).any (·.1.isNone)) = false := by rfl) :
    DE X (.Call (.Name x p) [] kws pos) (dCallK G ps.length n ds dNil tk) := by
  obtain ⟨_, pk, sk⟩ := hkw.ex
  refine ⟨_, pe_callKG0 F hG hr hm hk hb.kb pass0 pk hg hall hks hdb hpl, fun W S g m σ H Q R r0 sl hq kk => ?_⟩
  refine sk W S g m σ H _ _ r0 sl hq fun zs H2 S2 fs m2 r2 l2 ez q2 => ?_
  have ev := hb.rel S2 (.nil : EvEs X.K S2 [] []) ez
  obtain ⟨hk, hn, hc, he, hd⟩ := q2
  exact toSp_of r2 ev hk hn hc he hd fun v H3 S3 e m3 r3 l3 => kk v H3 S3 e m3 r3 (l2.trans l3)
end

/-! ### {k: v, ..}, a datum -/
section
variable {X : Cx} {pos : Pos}
abbrev DTPs := Gm → Mm → (List (PyData × PyData) → Mm → Prop) → Prop
def dpNil : DTPs := fun _ m Q => Q [] m
def dpCons (tk tv : DTE) (r : DTPs) : DTPs := fun g m Q => tk g m fun a m1 => tv g m1 fun b m2 => r g m2 fun ps m3 => onD a fun x => onD b fun y => Q ((x, y) :: ps) m3
def SndP (K : PySem.W.Frag) (trs : List (TE × TE)) (t : DTPs) : Prop := ∀ (W : Wd) (S : Sd) (g : Gm) (m : Mm) (σ : L2.St) (H : Hp) (Q : List (PyData × PyData) → Mm → Prop) (R : List (V × V) → Hp → Prop), Rep K W S m H → Sl K S σ g → t g m Q →
  (∀ vs H' S' ps m', Rep K W S' m' H' → Le S S' → Paired (fun (a : V × V) (b : PyData × PyData) => Dv K S'.F a.1 b.1 ∧ Dv K S'.F a.2 b.2) vs ps → Q ps m' → R vs H') → tPairs trs σ H R
structure DPs (X : Cx) (pos : Pos) (keys : List (Option Expr)) (values : List Expr) (t : DTPs) : Prop where
  ex : ∃ trs, PPs X pos keys values trs ∧ SndP X.K trs t
theorem dp_nil : DPs X pos [] [] dpNil := ⟨[], pps_nil, fun W S g m σ H Q R r0 sl hq k => k [] H S [] m r0 (Le.refl S) .nil hq⟩
theorem dp_cons {k v : Expr} {ks : List (Option Expr)} {vs : List Expr} {tk tv : DTE} {tr : DTPs} (hk : DE X k tk) (hv : DE X v tv) (hr : DPs X pos ks vs tr) : DPs X pos (some k :: ks) (v :: vs) (dpCons tk tv tr) := by
  obtain ⟨_, p1, s1⟩ := hk.ex
  obtain ⟨_, p2, s2⟩ := hv.ex
  obtain ⟨_, p3, s3⟩ := hr.ex
  refine ⟨_, pps_cons p1 p2 p3, fun W S g m σ H Q R r0 sl hq kk => ?_⟩
  show (_ : TE) σ H (fun x H1 => (_ : TE) σ H1 fun y H2 => tPairs _ σ H2 fun ps H3 => R ((x, y) :: ps) H3)
  refine s1 W S g m σ H _ _ r0 sl hq fun x H1 S1 a m1 r1 l1 ea q1 => ?_
  refine s2 W S1 g m1 σ H1 _ _ r1 (sl.mono l1) q1 fun y H2 S2 b m2 r2 l2 eb q2 => ?_
  refine s3 W S2 g m2 σ H2 _ _ r2 (sl.mono (l1.trans l2)) q2 fun vs H3 S3 ps m3 r3 l3 er q3 => ?_
  obtain ⟨x', rfl, q4⟩ := onD_of q3
  obtain ⟨y', rfl, q5⟩ := onD_of q4
  have ea' : Dv X.K S1.F x x' := ea
  have eb' : Dv X.K S2.F y y' := eb
  exact kk _ H3 S3 ((x', y') :: ps) m3 r3 ((l1.trans l2).trans l3) (.cons ⟨Dv.mono (l2.trans l3).f ea', Dv.mono l3.f eb'⟩ er) q5
/-- keys that are ints and texts, none twice -/
def keysOf : List (PyData × PyData) → (List Key → Prop) → Prop
  | [], Q => Q []
  | (k, _) :: r, Q => onKey k fun x => keysOf r fun ks => Q (x :: ks)
theorem keysOf_of : ∀ {ps : List (PyData × PyData)} {Q : List Key → Prop}, keysOf ps Q → ∃ ks, ps.map (·.1) = ks.map keyD ∧ Q ks
  | [], _, h => ⟨[], rfl, h⟩
  | (k, d) :: r, Q, h => by
    obtain ⟨x, e, h⟩ := onKey_of h
    obtain ⟨ks, e2, q⟩ := keysOf_of h
    exact ⟨x :: ks, by rw [List.map_cons, e2]; simp [e], q⟩
def dDisp (t : DTPs) : DTE := fun g m Q => t g m fun ps m1 => keysOf ps fun ks => ks.Nodup ∧ ps.length ≤ 15 ∧ Q (.dat (.dict ps)) m1
theorem mergeK_nd : ∀ (more kvs : List (Key × V)), ((kvs ++ more).map (·.1)).Nodup → mergeK kvs more = kvs ++ more
  | [], kvs, _ => by
    rw [List.append_nil]
    rfl
  | (k, v) :: more, kvs, h => by
    show mergeK (putK kvs k v) more = _
    have hk : kvs.any (fun kv => decide (kv.1 = k)) = false := by
      rw [List.any_eq_false]
      intro kv hkv
      rw [List.map_append, List.map_cons, List.nodup_append] at h
      have := h.2.2 kv.1 (List.mem_map.mpr ⟨kv, hkv, rfl⟩) k List.mem_cons_self
      simpa using this
    have e : putK kvs k v = kvs ++ [(k, v)] := by
      unfold putK
      rw [hk]
      rfl
    rw [e, mergeK_nd more (kvs ++ [(k, v)]) (by rw [List.append_assoc]; exact h), List.append_assoc]
    rfl
theorem pairs_kvs {K : PySem.W.Frag} {F : Hp} : ∀ {vs : List (V × V)} {ps : List (PyData × PyData)} {ks : List Key}, Paired (fun (a : V × V) (b : PyData × PyData) => Dv K F a.1 b.1 ∧ Dv K F a.2 b.2) vs ps → ps.map (·.1) = ks.map keyD →
    ∃ kvs : List (Key × V), vs = kvs.map (fun kv => (kV kv.1, kv.2)) ∧ kvs.map (·.1) = ks ∧ DvKv K F kvs ps
  | _, _, [], .nil, _ => ⟨[], rfl, rfl, .nil⟩
  | _, _, k :: ks, .cons (a := a) (b := b) h t, e => by
    have e1 : b.1 = keyD k := (List.cons.inj e).1
    obtain ⟨kvs, e2, e3, r⟩ := pairs_kvs t (List.cons.inj e).2
    obtain ⟨b1, b2⟩ := b
    obtain ⟨a1, a2⟩ := a
    have e1' : b1 = keyD k := e1
    subst e1'
    have e4 : a1 = kV k := dv_key h.1
    subst e4
    exact ⟨(k, a2) :: kvs, by rw [e2]; rfl, by rw [List.map_cons, e3], .cons h.2 r⟩
theorem d_disp {keys : List (Option Expr)} {values : List Expr} {t : DTPs} (h : DPs X pos keys values t) (hall : keys.all (·.isSome) = true := by rfl) (hl : keys.length = values.length := by rfl) (h0 : keys ≠ [] := by exact fun z => nomatch z) (h15 : keys.length ≤ 15 := by decide) :
    DE X (.Dict keys values pos) (dDisp t) := by
  obtain ⟨_, p, s⟩ := h.ex
  refine ⟨_, pe_disp p hall hl h0 h15, fun W S g m σ H Q R r0 sl hq k => ?_⟩
  intro D hD
  have n0 := r0.fresh0 hD
  have nA := r0.not_mem hD
  have nF := r0.freshF hD
  have r1 : Rep X.K W S m (upd H D (.dK [])) := r0.aside nA nF n0
  refine s _ S g m σ _ _ _ r1.enter sl hq fun vs H2 S2 ps m2 r2 l2 er q2 => ?_
  have hHD : H2 D = some (.dK []) := r2.kept D _ upd_same nA
  have nA2 : D ∉ S2.A := fun z => by
    rcases r2.mine D z with q | q
    · exact nA q
    · have q' : upd H D (.dK []) D = none := q
      rw [upd_same] at q'
      cases q'
  have nF2 : S2.F D = none := by
    cases e : S2.F D with
    | none => rfl
    | some u =>
      rcases r2.fnew D u e with q | q | q
      · have q' : S.F D = some u := q
        rw [nF] at q'
        cases q'
      · have q' : upd H D (.dK []) D = none := q
        rw [upd_same] at q'
        cases q'
      · exact absurd q nA
  obtain ⟨ks, ek, hnd, hz, q3⟩ := keysOf_of q2
  obtain ⟨kvs, ev, ek2, rk⟩ := pairs_kvs er ek
  have r3 : Rep X.K W S2 m2 H2 := r1.back (Sub.refl _) r2
  have em : mergeK [] kvs = kvs := by
    have := mergeK_nd kvs [] (by rw [List.nil_append, ek2]; exact hnd)
    rw [List.nil_append] at this
    exact this
  have hlen : kvs.length ≤ 15 := by
    have h1 : kvs.length = ks.length := by rw [← ek2, List.length_map]
    have h2 : ps.length = ks.length := by
      have := congrArg List.length ek
      rw [List.length_map, List.length_map] at this
      exact this
    omega
  refine ⟨hHD, kvs, ev, hlen, ?_⟩
  rw [em]
  obtain ⟨r4, l4⟩ := (r3.aside (o := .dK kvs) nA2 nF2 n0).known nA2 nF2 n0 upd_same
  have rk' : DvKv X.K (upd S2.F D (.dK kvs)) kvs ps := rk.mono l4.f
  exact k (.ref D) _ _ (.dat (.dict ps)) m2 r4 (l2.trans l4) (Dv.dic (show upd S2.F D (.dK kvs) D = _ from upd_same) rk') q3
/-- {} that will not change -/
def dNewC : DTE := fun _ m Q => Q (.dat (.dict [])) m
theorem d_newC : DE X (.Dict [] [] pos) dNewC := ⟨_, pe_dnewK, fun W S g m σ H Q R r0 sl hq k => fun p hp => by
  obtain ⟨r1, l1⟩ := r0.frz (o := .dK []) hp
  exact k _ _ _ (.dat (.dict [])) m r1 l1 (Dv.dic (show upd S.F p (.dK []) p = _ from upd_same) .nil) hq⟩
end

/-! ### repr of data with dicts (and no lists) -/
mutual
def noList : PyData → Bool
  | .none => true
  | .bool _ => true
  | .int _ => true
  | .str _ => true
  | .list _ => false
  | .tuple xs => noListAll xs
  | .dict kvs => noListKv kvs
def noListAll : List PyData → Bool
  | [] => true
  | x :: xs => noList x && noListAll xs
def noListKv : List (PyData × PyData) → Bool
  | [] => true
  | (_, v) :: xs => noList v && noListKv xs
end
section
variable {X : Cx} {pins : List (Addr × Obj)} {σ : L2.St} {H : Hp} {s : Shared}
theorem keys_read {h : Heap} : ∀ {es : List DictEntry} {ks : List (Key × Value)}, Pairs (mixKind X.prog X.w) es ks → ReadsAll h (es.map (·.key)) (ks.map fun k => keyD k.1) []
  | _, _, .nil => .nil
  | _, _, .cons (kv := kv) hk _ t => by
    have r := keys_read (h := h) t
    rcases keyIs_shape (k := kv.1) hk with ⟨i, tk, e1, e2⟩ | ⟨x, tk, e1, e2⟩
    · rw [List.map_cons, List.map_cons, e1, e2]
      exact ReadsAll.cons (Reads.int i tk) r
    · rw [List.map_cons, List.map_cons, e1, e2]
      exact ReadsAll.cons (Reads.str x tk) r
theorem pairs_vals : ∀ {es : List DictEntry} {ks : List (Key × Value)}, Pairs (mixKind X.prog X.w) es ks → es.map (·.val) = ks.map (·.2)
  | _, _, .nil => rfl
  | _, _, .cons _ h t => by rw [List.map_cons, List.map_cons, h, pairs_vals t]
theorem DvKv.keys {K : PySem.W.Frag} {F : Hp} : ∀ {kvs : List (Key × V)} {ds : List (PyData × PyData)}, DvKv K F kvs ds → ds.map (·.1) = kvs.map fun k => keyD k.1
  | _, _, .nil => rfl
  | _, _, .cons _ t => by rw [List.map_cons, List.map_cons, DvKv.keys t]
theorem KV.keys : ∀ {kvs : List (Key × V)} {ks : List (Key × Value)}, KV kvs ks → (ks.map fun k => keyD k.1) = kvs.map fun k => keyD k.1
  | _, _, .nil => rfl
  | _, _, .cons h t => by rw [List.map_cons, List.map_cons, h.1, KV.keys t]
mutual
theorem Dv.reads (I : Inv X pins σ H s) : ∀ (d : PyData) (v : V) (u : Value), Dv X.K H v d → RelV v u → ∃ as, Reads s.heap u d as ∧ (noList d = true → sysModules ∉ as)
  | .none, _, _, h, r => by
    cases h
    cases r
    exact ⟨_, Reads.none, fun _ => List.not_mem_nil⟩
  | .bool b, _, _, h, r => by
    cases h
    cases r
    exact ⟨_, Reads.bool b, fun _ => List.not_mem_nil⟩
  | .int i, _, _, h, r => by
    cases h
    obtain ⟨t, rfl⟩ := r
    exact ⟨_, Reads.int i t, fun _ => List.not_mem_nil⟩
  | .str x, _, _, h, r => by
    cases h
    obtain ⟨t, rfl⟩ := r
    exact ⟨_, Reads.str x t, fun _ => List.not_mem_nil⟩
  | .list ds, _, _, h, r => by
    cases h with
    | lst hs ha =>
      cases r
      obtain ⟨its, rv, ⟨o, n, ho, hc, _, hd⟩, _⟩ := I.list (SqL.of hs)
      obtain ⟨as, hr, _⟩ := Dv.readsAll I ds _ its ha rv
      exact ⟨_, Reads.list ho hc hd hr, fun z => nomatch z⟩
  | .tuple ds, _, _, h, r => by
    cases h with
    | tup hs ha =>
      cases r
      obtain ⟨its, rv, ⟨o, ho, hc, n, hd⟩, _⟩ := I.tuple hs
      obtain ⟨as, hr, hn⟩ := Dv.readsAll I ds _ its ha rv
      exact ⟨_, Reads.tuple ho hc hd hr, hn⟩
  | .dict ds, _, _, h, r => by
    cases h with
    | dic hs ha =>
      cases r
      obtain ⟨_, hsys, ks, rk, o, es, ep, ho, hex, hdat, _, hp, _⟩ := I.hok _ _ hs
      have h1 := keys_read (h := s.heap) hp
      rw [KV.keys rk, ← DvKv.keys ha] at h1
      obtain ⟨bs, h2, hn⟩ := Dv.readsKv I ds _ ks ha rk
      rw [← pairs_vals hp] at h2
      refine ⟨_, Reads.dict ho hex.1 hdat h1 h2, fun z => ?_⟩
      intro hm
      rcases List.mem_cons.mp hm with e | hm
      · rw [← e] at hsys
        exact absurd hsys (by decide)
      · exact hn z hm
theorem Dv.readsAll (I : Inv X pins σ H s) : ∀ (ds : List PyData) (vs : List V) (us : List Value), DvAll X.K H vs ds → Vals vs us → ∃ as, ReadsAll s.heap us ds as ∧ (noListAll ds = true → sysModules ∉ as)
  | [], _, _, h, r => by
    cases h
    cases r
    exact ⟨_, ReadsAll.nil, fun _ => List.not_mem_nil⟩
  | d :: ds, _, _, h, r => by
    cases h with
    | cons h1 h2 =>
      cases r with
      | cons r1 r2 =>
        obtain ⟨as, q1, n1⟩ := Dv.reads I d _ _ h1 r1
        obtain ⟨bs, q2, n2⟩ := Dv.readsAll I ds _ _ h2 r2
        refine ⟨_, ReadsAll.cons q1 q2, fun z => ?_⟩
        have z' := Bool.and_eq_true_iff.mp z
        exact fun hm => (List.mem_append.mp hm).elim (n1 z'.1) (n2 z'.2)
theorem Dv.readsKv (I : Inv X pins σ H s) : ∀ (ds : List (PyData × PyData)) (kvs : List (Key × V)) (ks : List (Key × Value)), DvKv X.K H kvs ds → KV kvs ks → ∃ as, ReadsAll s.heap (ks.map (·.2)) (ds.map (·.2)) as ∧ (noListKv ds = true → sysModules ∉ as)
  | [], _, _, h, r => by
    cases h
    cases r
    exact ⟨_, ReadsAll.nil, fun _ => List.not_mem_nil⟩
  | (x, d) :: ds, _, _, h, r => by
    cases h with
    | cons h1 h2 =>
      cases r with
      | cons r1 r2 =>
        obtain ⟨as, q1, n1⟩ := Dv.reads I d _ _ h1 r1.2
        obtain ⟨bs, q2, n2⟩ := Dv.readsKv I ds _ _ h2 r2
        refine ⟨_, ReadsAll.cons q1 q2, fun z => ?_⟩
        have z' := Bool.and_eq_true_iff.mp z
        exact fun hm => (List.mem_append.mp hm).elim (n1 z'.1) (n2 z'.2)
end
/-- repr: of data without dicts, or without lists -/
def rReprA (K : PySem.W.Frag) : List V → Hp → VK → Prop := fun xs H Q => ∃ x d, xs = [x] ∧ Dv K H x d ∧ d.showable = true ∧ (d.hasDict = false ∨ noList d = true) ∧ d.depth ≤ 60 ∧ d.shown.length ≤ sizeLine ∧ Q (.str d.shown) H
theorem call_reprA (hG : X.A.guards = some []) (hu : X.A.units + 64 < cLine) : CallR X (.builtin "repr") (rReprA X.K) := by
  intro pins s σ H xs us Q I r h
  obtain ⟨x, d, rfl, hd, hs, hn, hdp, hz, q⟩ := h
  obtain ⟨u, rfl, rx⟩ := vals1 r
  obtain ⟨as, rd, hsys⟩ := Dv.reads I d x u hd rx
  have hsm : d.hasDict = true → sysModules ∉ as := fun e => hn.elim (fun z => by rw [z] at e; cases e) hsys
  cases hd with
  | non =>
    cases rx
    exact P.repr_of_none ⟨.str _, H, I.tok _, ⟨_, rfl⟩, q⟩
  | bl b =>
    cases rx
    exact P.repr_of_bool ⟨.str _, H, I.tok _, ⟨_, rfl⟩, q⟩
  | int i =>
    obtain ⟨t, rfl⟩ := rx
    exact P.repr_of_int (of_decide_eq_true hs) ⟨.str _, H, I.tok _, ⟨_, rfl⟩, q⟩
  | str z =>
    obtain ⟨t, rfl⟩ := rx
    exact P.repr_of_str (hsz := hz) ⟨.str _, H, I.tok _, ⟨_, rfl⟩, q⟩
  | lst _ _ =>
    cases rx
    exact repr_of_reads' rd hs hsm hG (by omega) (fun _ _ e => e) (fun h' u tk hk => ⟨.str _, H, I.kept hk, ⟨_, rfl⟩, q⟩) hz
  | tup _ _ =>
    cases rx
    exact repr_of_reads' rd hs hsm hG (by omega) (fun _ _ e => e) (fun h' u tk hk => ⟨.str _, H, I.kept hk, ⟨_, rfl⟩, q⟩) hz
  | dic _ _ =>
    cases rx
    exact repr_of_reads' rd hs hsm hG (by omega) (fun _ _ e => e) (fun h' u tk hk => ⟨.str _, H, I.kept hk, ⟨_, rfl⟩, q⟩) hz
end
/-- what repr can show here: so deep, so long, and dicts without lists -/
structure Shows (d : PyData) : Prop where
  able : d.showable = true
  dic : d.hasDict = false ∨ noList d = true
  deep : d.depth ≤ 60
  long : d.shown.length ≤ sizeLine
def fReprA : FN := fun ds Q => match ds with
  | [d] => Shows d ∧ Q (.str d.shown)
  | _ => False
theorem opN_reprA {K : PySem.W.Frag} : OpN K (rReprA K) fReprA := by
  intro W S m H vs ds Q R r va q k
  match ds, va, q with
  | [d], va, q =>
    obtain ⟨v, rfl, h⟩ := vwAll1 va
    have hd : Dv K H v d := by
      rcases h with h | ⟨p, us, es, rfl, rfl, hH, hA⟩
      · exact Dv.mono r.sub h
      · exact .lst hH (DvAll.mono r.sub hA)
    exact ⟨v, d, rfl, hd, q.1.able, q.1.dic, q.1.deep, q.1.long, k _ H S _ r (Le.refl S) (.str _) q.2⟩

/-! ### the end of a law -/
def spLawD : DSp := fun es m Q => ∃ ns : List Int, es = [.scr ns] ∧ m = [] ∧ ns.length ≤ 63 ∧ ∀ m', Q (.dat (.bool true)) m'
theorem toSp_law {K : PySem.W.Frag} {H : Hp} {a : Addr} {ns : List Int} (hS : SqL K H a (ns.map V.int)) (hl : ns.length ≤ 63) : toSp K 1 spLawD [.ref a] H (fun v _ => v = .bl true) fun _ _ _ => False := by
  refine ⟨rfl, ⟨H, []⟩, [.scr ns], [], fun e _ => e = .dat (.bool true), ?_, .cons ⟨a, rfl, hS⟩ .nil, ⟨ns, rfl, rfl, hl, fun _ => rfl⟩, fun v H' S' e m' _ _ ev q => ?_⟩
  · exact ⟨rfl, List.nodup_nil, Sub.refl _, fun k p o h => by simp at h, fun p h => absurd h List.not_mem_nil, fun k p o h => by simp at h, fun _ _ e _ => e, fun p h => absurd h List.not_mem_nil, fun _ _ e => Or.inl e, List.prefix_refl _⟩
  · have q' : e = .dat (.bool true) := q
    subst q'
    exact dv_bl ev
section
variable {P : Program} {w : World} {K : PySem.W.Frag} {mg mb : Str → Option Value} {k : Nat} {fa a : Addr} {fd : FuncData} {x : Str} {s1 : Shared} {vs : List Value} {ns : List Int}
/-- the law is called at the heap H that knows the script alone -/
theorem law_at {H : Hp} (KX : K.In s1.heap) (hns : s1.heap.Ns mainGlobals mg) (hb : s1.heap.Ns builtinsNs mb) (hbb : ∀ x : Str, x ≠ "__name__" → mb x = bootBuiltins x) (hlim : s1.heap.NoLimit) (hg : s1.gens = #[]) (ha : s1.heap.get? a = some { cls := .type "list", data := .seq vs.toArray })
    (hO : Only H) (hok : HOk P w H s1.heap) (hA : ∀ b, H b ≠ none → b = a) (hK : H a ≠ none → K.lookup a = none) (hS : SqL K H a (ns.map V.int)) (hl : ns.length ≤ 63) (hr : Room k callerA)
    (F : ∀ base : Heap, K.In base → base.Ns mainGlobals mg → FnD P w K mg base k fa fd [x] spLawD) (hbind : ∀ (s : Shared) (u : Value), BindsTo s fd ⟨[u], []⟩ [(x, u)]) :
    codeAny (model P w) callerA (.call (.ref fa) ⟨[.ref a], []⟩) (fun r s' => r = .ok (.ret (.bool true)) ∧ OldK s1.heap s'.heap ∧ s'.os = s1.os ∧ AllBare s'.gens) s1 := by
  have only : ∀ b u, H b = some u → b = a := fun b u e => hA b (by rw [e]; exact fun z => nomatch z)
  have dicN : ∀ {b : Addr} {o : Obj} {es : Array DictEntry} {ep : Nat}, s1.heap.get? b = some o → o.data = .dict es ep → H b = none := fun {b o es ep} e d => by
    cases q : H b with
    | none => rfl
    | some u =>
      rw [only b u q, ha] at e
      cases e
      cases d
  have nsB : ∀ {b : Addr} {m : Str → Option Value}, s1.heap.Ns b m → (hidT s1.heap H).Ns b m := fun {b m} h => by
    obtain ⟨o, es, ep, e, d, r⟩ := h
    exact ⟨o, es, ep, hidT_get e (dicN e d), d, r⟩
  have kB : K.In (hidT s1.heap H) := fun b o e => hidT_get (KX b o e) (by
    cases q : H b with
    | none => rfl
    | some u =>
      have eb := only b u q
      rw [eb] at q e
      rw [hK (by rw [q]; exact fun z => nomatch z)] at e
      cases e)
  obtain ⟨mc, hl1, hl2⟩ := hlim
  have M : Mod K mg (hidT s1.heap H) := ⟨kB, nsB hns, ⟨mb, nsB hb, hbb⟩, ⟨mc, nsB hl1, hl2⟩⟩
  have noF : ∀ b, b ∉ frs ([] : List Env) := fun b hb => absurd (show b ∈ ([] : List Addr) from hb) List.not_mem_nil
  have e0 : Env0 P w K mg (hidT s1.heap H) callerA [] s1 H := ⟨rfl, M, fun b o e => of_hidT e, Nat.le_of_eq (hidT_size _ _), trivial, fun b hb => absurd hb (noF b), hok, .of_eq hg⟩
  have run := (F _ kB (nsB hns)).run callerA [] s1 H ⟨[.ref a], []⟩ [.ref a] [.ref a] _ _ rfl hr e0 (hbind s1 (.ref a)) (.cons rfl .nil) (toSp_law hS hl)
  refine codeAny_mono run fun r s' h => ?_
  match r, h with
  | .ok (.ret u), ⟨v, H', os, bare, un, hok', r', q⟩ =>
    have q' : v = .bl true := q
    subst q'
    have eu : u = Value.bool true := r'
    subst eu
    refine ⟨rfl, OldK.of_keep fun b o e => ?_, os, bare⟩
    cases q : H b with
    | none => exact un.keep b o e q (noF b) List.not_mem_nil
    | some u =>
      rcases hO b with z | ⟨ob, xs, z⟩
      · rw [q] at z
        cases z
      · obtain ⟨e1, _⟩ := hok b _ z
        obtain ⟨e2, _⟩ := hok' b _ (un.frzs b ob _ z)
        rw [e] at e1
        cases e1
        exact e2
theorem law_run (KX : K.In s1.heap) (hns : s1.heap.Ns mainGlobals mg) (hb : s1.heap.Ns builtinsNs mb) (hbb : ∀ x : Str, x ≠ "__name__" → mb x = bootBuiltins x) (hlim : s1.heap.NoLimit) (hg : s1.gens = #[]) (ha : s1.heap.get? a = some { cls := .type "list", data := .seq vs.toArray })
    (hi : IntsAre vs ns) (hl : ns.length ≤ 63) (hr : Room k callerA) (F : ∀ base : Heap, K.In base → base.Ns mainGlobals mg → FnD P w K mg base k fa fd [x] spLawD) (hbind : ∀ (s : Shared) (u : Value), BindsTo s fd ⟨[u], []⟩ [(x, u)]) :
    codeAny (model P w) callerA (.call (.ref fa) ⟨[.ref a], []⟩) (fun r s' => r = .ok (.ret (.bool true)) ∧ OldK s1.heap s'.heap ∧ s'.os = s1.os ∧ AllBare s'.gens) s1 := by
  have rv := vals_ints hi
  have hz : (ns.map V.int).length ≤ sizeLine := by
    rw [List.length_map, sizeLine_eq]
    omega
  cases hk : K.lookup a with
  | some o =>
    have e := KX a o hk
    rw [ha] at e
    cases e
    refine law_at (H := fun _ => none) KX hns hb hbb hlim hg ha (fun _ => Or.inl rfl) (fun b u z => nomatch z) (fun b z => absurd rfl z) (fun z => absurd rfl z) (Or.inr ⟨_, vs.toArray, _, hk, rfl, rfl, rfl, ?_, by simpa using rv⟩) hl hr F hbind
    rw [List.size_toArray, ← rv.length]
    exact hz
  | none =>
    have at_a : upd (fun _ => none) a (.frz { cls := .type "list", data := .seq vs.toArray } (.lst (ns.map V.int))) a = some (.frz { cls := .type "list", data := .seq vs.toArray } (.lst (ns.map V.int))) := upd_same
    refine law_at (H := upd (fun _ => none) a (.frz { cls := .type "list", data := .seq vs.toArray } (.lst (ns.map V.int)))) KX hns hb hbb hlim hg ha (fun b => ?_) (fun b u z => ?_) (fun b z => ?_) (fun _ => hk) (Or.inl (Or.inr ⟨_, at_a⟩)) hl hr F hbind
    · by_cases c : b = a
      · rw [c]
        exact Or.inr ⟨_, _, at_a⟩
      · exact Or.inl (upd_ne c)
    · by_cases c : b = a
      · subst c
        rw [upd_same] at z
        cases z
        exact ⟨ha, hz, vs, _, rv, ha⟩
      · rw [upd_ne c] at z
        cases z
    · by_cases c : b = a
      · exact c
      · exact absurd (upd_ne c) z
end
/-- what k_head leaves, from the law's promise -/
theorem walkD {l : PySem.W.OpenLaw} {k : Nat} {q : Program} {loose : List Str} {XP : (Str → Option Value) → Heap → Prop} {YP : World → Heap → Prop} {d : DefRec} {K : Params → PySem.W.Frag} {x : Str} (hn : l.most = some 63) (hdf : d.params.defaults = []) (hr : Room k callerA)
    (hY : ∀ (w : World) (h : Heap), YP w h → (K w.params).In h)
    (F : ∀ (w : World) (mg : Str → Option Value) (fa : Addr) (h : Heap), (K w.params).In h → h.Ns mainGlobals mg → mg d.name = some (.ref fa) → ∃ fd : FuncData, (∀ (s : Shared) (u : Value), BindsTo s fd ⟨[u], []⟩ [(x, u)]) ∧
      ∀ base : Heap, (K w.params).In base → base.Ns mainGlobals mg → FnD l.prog w (K w.params) mg base k fa fd [x] spLawD) : PySem.W.WalkO q loose XP YP l.row.toRowW d [] (fun f vs => PySem.call f vs) := by
  refine Att.attach_call hn hdf fun w s0 s1 mg mb fa o pm cd doc a vs ns G Y ho hd hcd hmg hobj hints hlen hg => ?_
  obtain ⟨fd, hb, hF⟩ := F w mg fa _ (hY w _ Y) G.T.g hmg
  exact law_run (hY w _ Y) G.T.g G.T.b G.T.builtins G.T.nolimit hg hobj hints hlen hr hF hb
end DL
/-! DLi: what a caller knows of a def of the text; walking a list, a tuple or a text; small facts for plain goals. -/
namespace DL
open PySem PySem.Spec PyProof.Rows L2

/-! ### defs of the text -/
structure Cal (P : Program) (w : World) (K : PySem.W.Frag) (mg : Str → Option Value) (base : Heap) (k : Nat) (x : Str) (st : Stmt) (ps : List Str) (ds : DSp) : Prop where
  ex : ∃ f fd, FnD P w K mg base k f fd ps ds ∧ mg x = some (.ref f) ∧ Fun K x x st f fd ∧ Binds K fd ps []
section
variable {X : Cx} {k j : Nat} {x : Str} {st : Stmt} {ps ks : List Str} {ds : DSp} {p pos : Pos} {e : Expr} {es : List Expr} {kws : List Keyword} {t tk : DTA}
theorem d_cal (n : Nat) (C : Cal X.prog X.w X.K X.mg X.base k x st ps ds) (hG : X.A.guards = some []) (hr : Room j X.A) (hkj : k ≤ j) (ha : DA X (e :: es) t) (hg : Gl X x := by rfl) (hdb : (x == ("__debug__" : Str)) = false := by decide)
    (he : starEach (e :: es) X.env = (false, eval e X.env) :: starEach es X.env := by rfl) (hpl : (backTo pos (starEach es X.env)).any (·.1) = false := by rfl) : DE X (.Call (.Name x p) (e :: es) [] pos) (dCallN ps.length n ds t) := by
  obtain ⟨f, fd, F, hm, Fu, hb⟩ := C.ex
  exact d_call n F hG (hr.mono hkj) hm Fu.kp hb ha hg hdb he hpl
theorem d_cal0 (n : Nat) (C : Cal X.prog X.w X.K X.mg X.base k x st ps ds) (hG : X.A.guards = some []) (hr : Room j X.A) (hkj : k ≤ j) (hg : Gl X x := by rfl) (hdb : (x == ("__debug__" : Str)) = false := by decide) : DE X (.Call (.Name x p) [] [] pos) (dCallN ps.length n ds dNil) := by
  obtain ⟨f, fd, F, hm, Fu, hb⟩ := C.ex
  exact d_call0 n F hG (hr.mono hkj) hm Fu.kp hb hg hdb
theorem d_calW (C : Cal X.prog X.w X.K X.mg X.base k x st ps ds) (hG : X.A.guards = some []) (hr : Room j X.A) (hkj : k ≤ j) (ha : DA X (e :: es) t) (hg : Gl X x := by rfl) (hdb : (x == ("__debug__" : Str)) = false := by decide)
    (he : starEach (e :: es) X.env = (false, eval e X.env) :: starEach es X.env := by rfl) (hpl : (backTo pos (starEach es X.env)).any (·.1) = false := by rfl) : DE X (.Call (.Name x p) (e :: es) [] pos) (dCallA ps.length ds t) := by
  obtain ⟨f, fd, F, hm, Fu, hb⟩ := C.ex
  exact d_callW F hG (hr.mono hkj) hm Fu.kp hb ha hg hdb he hpl
/-- how keywords bind: read off the text -/
def KwOk (x : Str) (st : Stmt) (ps ks : List Str) (na nb : Nat) (pi : List Nat) : Prop := ∀ (kV doc pm : Value) (an : Option Addr) (cdv ct : Value) (us ws : List Value), us.length = na → ws.length = nb →
  bindArgs (PySem.W.fnOf x x (defArgs st) (defBody st) (defScope st) .none kV doc pm an cdv ct) ⟨us, ks.zip ws⟩ = pure (ps.zip (gK na nb pi us ws))
theorem kb_cal {K : PySem.W.Frag} {f : Addr} {fd : FuncData} {na nb : Nat} {pi : List Nat} (Fu : Fun K x x st f fd) (h : KwOk x st ps ks na nb pi) (h0 : ps ≠ []) : KB K fd ps ks (gK na nb pi) := by
  obtain ⟨oc, od, kV, doc, pm, an, cdv, ct, osl, rfl, lk, hcd⟩ := Fu.ex
  exact kb_of (fun s us ws h1 h2 => .of_eq (h kV doc pm an cdv ct us ws h1 h2)) h0
theorem d_calK (n : Nat) {na nb : Nat} {pi : List Nat} (C : Cal X.prog X.w X.K X.mg X.base k x st ps ds) (hG : X.A.guards = some []) (hr : Room j X.A) (hkj : k ≤ j) (hkw : KwOk x st ps ks na nb pi) (h0 : ps ≠ []) (ha : DA X (e :: es) t) (hk : DK X kws tk) (hg : Gl X x := by rfl)
    (hall : (backToKw pos (keywordEach kws X.env)).all (·.1.isSome) = true := by rfl) (hks : (backToKw pos (keywordEach kws X.env)).filterMap (·.1) = ks := by rfl)
    (hdb : (x == ("__debug__" : Str)) = false := by decide) (he : starEach (e :: es) X.env = (false, eval e X.env) :: starEach es X.env := by rfl)
    (hpl : ((backTo pos (starEach (e :: es) X.env)).any (·.1) || (backToKw pos (keywordEach kws X.env)).any (·.1.isNone)) = false := by rfl) : DE X (.Call (.Name x p) (e :: es) kws pos) (dCallK (gK na nb pi) ps.length n ds t tk) := by
  obtain ⟨f, fd, F, hm, Fu, hb⟩ := C.ex
  exact d_callK n F hG (hr.mono hkj) hm Fu.kp (kb_cal Fu hkw h0) ha hk hg hall hks hdb he hpl
theorem d_calK0 (n : Nat) {nb : Nat} {pi : List Nat} (C : Cal X.prog X.w X.K X.mg X.base k x st ps ds) (hG : X.A.guards = some []) (hr : Room j X.A) (hkj : k ≤ j) (hkw : KwOk x st ps ks 0 nb pi) (h0 : ps ≠ []) (hk : DK X kws tk) (hg : Gl X x := by rfl)
    (hall : (backToKw pos (keywordEach kws X.env)).all (·.1.isSome) = true := by rfl) (hks : (backToKw pos (keywordEach kws X.env)).filterMap (·.1) = ks := by rfl)
    (hdb : (x == ("__debug__" : Str)) = false := by decide) (hpl : ((backTo pos (starEach [] X.env)).any (·.1) || (backToKw pos (keywordEach kws X.env)).any (·.1.isNone)) = false := by rfl) : DE X (.Call (.Name x p) [] kws pos) (dCallK (gK 0 nb pi) ps.length n ds dNil tk) := by
  obtain ⟨f, fd, F, hm, Fu, hb⟩ := C.ex
  exact d_callK0 n F hG (hr.mono hkj) hm Fu.kp (kb_cal Fu hkw h0) hk hg hall hks hdb hpl
end

/-! ### a list, a tuple or a text is walked -/
section
variable {X : Cx} {tg e : Expr} {te : DTE}
def iAny (K : PySem.W.Frag) (tl : TE) : TI := fun σ H R => tl σ H fun v H1 => (∃ a xs, v = .ref a ∧ SqL K H1 a xs ∧ R (Itl K a) H1) ∨ (∃ a xs, v = .ref a ∧ SqT K H1 a xs ∧ R (Itt K a) H1)
theorem pi_any {t : TE} (h : PE X e t) : PI X tg e (iAny X.K t) := by
  refine ⟨fun pins s σ H R I hq => ?_⟩
  refine thn (h.run pins s σ H _ I hq) fun u s1 hh => ?_
  obtain ⟨v, H1, I1, rv, q⟩ := hh
  have new : ∀ b ∈ [s1.heap.objs.size], FpOk X pins H1 b := by
    intro b hb
    rw [List.mem_singleton] at hb
    rw [hb]
    exact I1.fpOk (Nat.le_refl _) (I1.hok.fresh (Nat.le_refl _))
  rcases q with q | q
  · obtain ⟨a, xs, ev, hs, q⟩ := q
    subst ev
    obtain ⟨its, rr, pl, hz⟩ := I1.list hs
    have eu : u = Value.ref a := rv
    subst eu
    refine wpAny_pyIter_list pl.isList ?_
    refine ⟨s1.heap.objs.size, [s1.heap.objs.size], _, Itl X.K a, H1, rfl, I1.kept (t' := s1.toks) (fun b o z => Heap.get?_push_of_some _ z), turn_list a s1.heap.objs.size, ?_, new, q⟩
    exact ⟨_, Heap.get?_push_size _ rfl, rfl, rfl⟩
  · obtain ⟨a, xs, ev, hs, q⟩ := q
    subst ev
    obtain ⟨its, rr, pl, hz⟩ := I1.tuple hs
    have eu : u = Value.ref a := rv
    subst eu
    refine wpAny_pyIter_tuple (show s1.heap.IsTuple a its.toArray from pl) ?_
    refine ⟨s1.heap.objs.size, [s1.heap.objs.size], _, Itt X.K a, H1, rfl, I1.kept (t' := s1.toks) (fun b o z => Heap.get?_push_of_some _ z), turn_tuple a s1.heap.objs.size, ?_, new, q⟩
    exact ⟨_, Heap.get?_push_size _ rfl, rfl, rfl⟩
def onSeq : E → (List PyData → Prop) → Prop
  | .dat (.list ds), Q => Q ds
  | .dat (.tuple ds), Q => Q ds
  | _, _ => False
theorem onSeq_of {e : E} {Q : List PyData → Prop} (h : onSeq e Q) : ∃ ds, (e = .dat (.list ds) ∨ e = .dat (.tuple ds)) ∧ Q ds := by
  cases e with
  | loc _ => exact h.elim
  | scr _ => exact h.elim
  | dat d =>
    cases d with
    | list ds => exact ⟨ds, Or.inl rfl, h⟩
    | tuple ds => exact ⟨ds, Or.inr rfl, h⟩
    | _ => exact h.elim
def diA (te : DTE) : DTI := fun g m Q => te g m fun e m1 => onSeq e fun ds => Q ds m1
theorem di_any (h : DE X e te) : DI X tg e (diA te) := by
  obtain ⟨_, p, s⟩ := h.ex
  refine ⟨_, pi_any p, fun W S g m σ H Q R r0 sl hq k => ?_⟩
  refine s W S g m σ H _ _ r0 sl hq fun v H1 S1 e m1 r1 l1 ev q1 => ?_
  obtain ⟨ds, e1, q2⟩ := onSeq_of q1
  rcases e1 with e1 | e1
  · subst e1
    obtain ⟨a, xs, rfl, h, t⟩ := dv_lst ev
    exact Or.inl ⟨a, xs, rfl, Or.inl (Or.inl (r1.sub _ _ h)), k _ H1 S1 ds m1 r1 l1 (yld_list (Or.inl (Or.inl h)) t) q2⟩
  · subst e1
    obtain ⟨a, xs, rfl, h, t⟩ := dv_tup ev
    exact Or.inr ⟨a, xs, rfl, r1.sub.st h, k _ H1 S1 ds m1 r1 l1 (yld_tup h t) q2⟩
end

/-! ### plain goals -/
/-- a def of data alone: its value by a function -/
def pureSp (n : Nat) (Pre : List PyData → Prop) (f : List PyData → PyData) : DSp := fun es m Q => ∃ ds : List PyData, es = ds.map .dat ∧ ds.length = n ∧ Pre ds ∧ m = [] ∧ ∀ m', Q (.dat (f ds)) m'
theorem call_pure {k : Nat} {Pre : List PyData → Prop} {f : List PyData → PyData} {ta : DTA} {g : Gm} {m : Mm} {Q : E → Mm → Prop} (h : ta g m fun es m1 => ∃ ds : List PyData, es = ds.map .dat ∧ ds.length = k ∧ Pre ds ∧ Q (.dat (f ds)) m1)
    (mono : ∀ Q Q' : List E → Mm → Prop, (∀ es m, Q es m → Q' es m) → ta g m Q → ta g m Q') : dCallN k 0 (pureSp k Pre f) ta g m Q := by
  refine mono _ _ (fun es m1 q => ?_) h
  obtain ⟨ds, rfl, hl, hp, q⟩ := q
  refine ⟨by rw [List.length_map]; exact hl, Nat.zero_le _, rfl, ?_, ds, rfl, hl, hp, rfl, fun m' => ?_⟩
  · rw [List.all_eq_true]
    intro e he
    obtain ⟨d, _, rfl⟩ := List.mem_map.mp he
    rfl
  · exact ⟨rfl, q⟩
end DL
/-! DLj: the deck of draws; what repr can show; facts for plain goals. -/
namespace DL
open PySem PySem.Spec PyProof.Rows L2

/-- the deck: the cells, a mixed number, how many draws -/
def deckM (c : List Int) (i j : Int) : Mm := [.lst (c.map fun n => .dat (.int n)), .lst [.loc 0, .dat (.int i), .dat (.int j)]]
structure DeckOk (m : Mm) (j : Int) : Prop where
  ex : ∃ c i, m = deckM c i j ∧ c.length ≤ 63 ∧ 0 ≤ i ∧ i ≤ 2 ^ 40
def deckSp (n : Nat) (cost : Int) (Pre : List PyData → Prop) (Post : List PyData → PyData → Prop) : DSp := fun es m Q => ∃ (ds : List PyData) (j : Int), es = .loc 1 :: ds.map .dat ∧ ds.length = n ∧ Pre ds ∧ DeckOk m j ∧ (0 ≤ j ∧ j + cost ≤ 2 ^ 40) ∧
  ∀ d m' j', DeckOk m' j' → j ≤ j' ∧ j' ≤ j + cost → Post ds d → Q (.dat d) m'
/-- the deck is made -/
def spDeck : DSp := fun es m Q => ∃ ns : List Int, es = [.scr ns] ∧ m = [] ∧ ns.length ≤ 63 ∧ ∀ m', DeckOk m' 0 → Q (.loc 1) m'
/-- a draw below n -/
def spDraw : DSp := deckSp 1 1 (fun ds => ∃ n, ds = [.int n] ∧ 0 < n ∧ n < 1073741824) fun ds d => ∃ n r, ds = [.int n] ∧ d = .int r ∧ 0 ≤ r ∧ r < n
theorem deck_in (c : List Int) (i j : Int) : (deckM c i j).all (inO 2) = true := by
  unfold deckM
  rw [List.all_cons, List.all_cons, List.all_nil]
  have h : (inO 2 (.lst (c.map fun n => E.dat (.int n)))) = true := by
    show (c.map fun n => E.dat (.int n)).all (inE 2) = true
    rw [List.all_map]
    exact List.all_eq_true.mpr fun x _ => rfl
  rw [h]
  rfl
theorem dats_in (n : Nat) (ds : List PyData) : (ds.map E.dat).all (inE n) = true := by
  rw [List.all_map]
  exact List.all_eq_true.mpr fun x _ => rfl
/-! ### what repr can show -/
theorem strlen_append (x y : Str) : (x ++ y).length = x.length + y.length := strLen_append x y
/-- signs that a repr shows in at most ten signs -/
def Plain (x : Str) : Prop := ∀ c ∈ x.cps.toList, c < 16 ^ 8
theorem shows_str {x : Str} (hp : Plain x) (hl : x.length ≤ 1000000) : Shows (.str x) := by
  refine ⟨rfl, Or.inl rfl, by show 0 ≤ 60; decide, ?_⟩
  have h := StrLaws.reprText_len x hp
  have e : (PyData.str x).shown = reprText x := rfl
  have hs : (sizeLine : Nat) = 16777216 := rfl
  rw [e]
  omega
theorem shows_int {i : Int} (h : i.natAbs.log2 < 1920) : Shows (.int i) := ⟨decide_eq_true h, Or.inl rfl, by show 0 ≤ 60; decide, int_text_fits h⟩
theorem natAbs_log2 {i : Int} {n : Nat} (h : i.natAbs < 2 ^ n) (hn : n ≤ 1920) (h0 : 0 < n) : i.natAbs.log2 < 1920 := by
  by_cases z : i.natAbs = 0
  · rw [z]
    decide
  · have := (Nat.log2_lt z).mpr h
    omega
end DL
/-! DLk: the cut, and how comprehensions and loops are met in plain goals. -/
namespace DL
open PySem PySem.Spec PyProof.Rows L2

/-- where ways join: what holds between -/
def dCut (t u : DTS) : DTS := fun D g m => ∃ P : Gm → Mm → Prop, t { D with nx := P } g m ∧ ∀ g' m', P g' m' → u D g' m'
section
variable {X : Cx} {st : Stmt} {rest : List Stmt} {t u : DTS}
theorem ds_cut (h : DS X st t) (h' : DSs X rest u) : DSs X (st :: rest) (dCut t u) := by
  obtain ⟨_, p, s⟩ := h.ex
  obtain ⟨_, p', s'⟩ := h'.ex
  refine ⟨_, pss_cons p p', fun W S g m σ H D R r0 sl hq k => ?_⟩
  obtain ⟨P, q1, q2⟩ := hq
  refine s W S g m σ H _ _ r0 sl q1 ⟨fun σ1 H1 S1 g1 m1 r1 l1 sl1 q3 => ?_, k.rt, k.bk, k.ct⟩
  exact s' W S1 g1 m1 σ1 H1 D R r1 sl1 (q2 _ _ q3) (k.le l1)
end

theorem bools_mapB {α : Type} (l : List α) (f : α → Bool) {Q : List Bool → Prop} (h : Q (l.map f)) : bools (l.map fun a => PyData.bool (f a)) Q := by
  have e : (l.map fun a => PyData.bool (f a)) = (l.map f).map .bool := by rw [List.map_map]; rfl
  rw [e]
  exact bools_map _ _ h
theorem signs_mem {x : Str} {i : Nat} {d : PyData} (h : (signsD x)[i]? = some d) : ∃ c ∈ x.cps.toList, d = .str ⟨#[c]⟩ := by
  obtain ⟨c, hc, rfl⟩ := List.mem_map.mp (List.mem_of_getElem? h)
  exact ⟨c, hc, rfl⟩
theorem signs_len (x : Str) : (signsD x).length = x.length := by
  unfold signsD
  rw [List.length_map]
  rfl
/-- a comprehension of data over data -/
theorem lc_pure {items : List PyData} {f : PyData → PyData} {m : Mm} {B : (Nat → List PyData → Mm → Prop) → Nat → PyData → List PyData → Mm → Prop} {Q : List PyData → Mm → Prop} (hl : items.length ≤ sizeLine)
    (hb : ∀ (I : Nat → List PyData → Mm → Prop) i x acc, x ∈ items → acc.length < sizeLine → I (i + 1) (acc ++ [f x]) m → B I i x acc m) (hq : Q (items.map f) m) :
    ∃ I : Nat → List PyData → Mm → Prop, I 0 [] m ∧ (∀ i x acc m', items[i]? = some x → I i acc m' → B I i x acc m') ∧ ∀ acc m', I items.length acc m' → Q acc m' := by
  refine ⟨fun i acc m' => acc = (items.take i).map f ∧ m' = m, ⟨rfl, rfl⟩, fun i x acc m' hx hI => ?_, fun acc m' hI => ?_⟩
  · obtain ⟨rfl, rfl⟩ := hI
    have hi : i < items.length := by
      rcases Nat.lt_or_ge i items.length with h | h
      · exact h
      · rw [List.getElem?_eq_none h] at hx
        cases hx
    refine hb _ i x _ (List.mem_of_getElem? hx) ?_ ⟨?_, rfl⟩
    · rw [List.length_map, List.length_take]
      omega
    · rw [List.take_add_one, hx, List.map_append]
      rfl
  · obtain ⟨rfl, rfl⟩ := hI
    rw [List.take_length]
    exact hq
/-- the same with a test -/
theorem lc_filt {items : List PyData} {p : PyData → Bool} {f : PyData → PyData} {m : Mm} {B : (Nat → List PyData → Mm → Prop) → Nat → PyData → List PyData → Mm → Prop} {Q : List PyData → Mm → Prop} (hl : items.length ≤ sizeLine)
    (hb : ∀ (I : Nat → List PyData → Mm → Prop) i x acc, x ∈ items → acc.length < sizeLine → (p x = true → I (i + 1) (acc ++ [f x]) m) → (p x = false → I (i + 1) acc m) → B I i x acc m) (hq : Q ((items.filter p).map f) m) :
    ∃ I : Nat → List PyData → Mm → Prop, I 0 [] m ∧ (∀ i x acc m', items[i]? = some x → I i acc m' → B I i x acc m') ∧ ∀ acc m', I items.length acc m' → Q acc m' := by
  refine ⟨fun i acc m' => acc = ((items.take i).filter p).map f ∧ m' = m, ⟨rfl, rfl⟩, fun i x acc m' hx hI => ?_, fun acc m' hI => ?_⟩
  · obtain ⟨rfl, rfl⟩ := hI
    have hi : i < items.length := by
      rcases Nat.lt_or_ge i items.length with h | h
      · exact h
      · rw [List.getElem?_eq_none h] at hx
        cases hx
    refine hb _ i x _ (List.mem_of_getElem? hx) ?_ (fun h => ⟨?_, rfl⟩) (fun h => ⟨?_, rfl⟩)
    · have := List.length_filter_le p (items.take i)
      rw [List.length_map]
      rw [List.length_take] at this
      omega
    · rw [List.take_add_one, hx, List.filter_append]
      show _ = List.map f (List.filter p (List.take i items) ++ List.filter p [x])
      rw [List.filter_cons_of_pos h, List.map_append]
      rfl
    · rw [List.take_add_one, hx, List.filter_append]
      show _ = List.map f (List.filter p (List.take i items) ++ List.filter p [x])
      rw [List.filter_cons_of_neg (by rw [h]; exact Bool.false_ne_true)]
      show _ = List.map f (List.filter p (List.take i items) ++ [])
      rw [List.append_nil]
  · obtain ⟨rfl, rfl⟩ := hI
    rw [List.take_length]
    exact hq
/-- a comprehension whose elements are known by a law alone, over a state -/
theorem lc_such {items : List PyData} {P : PyData → Prop} {J : Nat → Mm → Prop} {m : Mm} {B : (Nat → List PyData → Mm → Prop) → Nat → PyData → List PyData → Mm → Prop} {Q : List PyData → Mm → Prop} (hl : items.length ≤ sizeLine) (h0 : J 0 m)
    (hb : ∀ (I : Nat → List PyData → Mm → Prop) i x acc m', items[i]? = some x → i < items.length → acc.length < sizeLine → J i m' → (∀ d m2, P d → J (i + 1) m2 → I (i + 1) (acc ++ [d]) m2) → B I i x acc m')
    (hq : ∀ acc m', acc.length = items.length → (∀ d ∈ acc, P d) → J items.length m' → Q acc m') :
    ∃ I : Nat → List PyData → Mm → Prop, I 0 [] m ∧ (∀ i x acc m', items[i]? = some x → I i acc m' → B I i x acc m') ∧ ∀ acc m', I items.length acc m' → Q acc m' := by
  refine ⟨fun i acc m' => acc.length = i ∧ (∀ d ∈ acc, P d) ∧ J i m', ⟨rfl, fun _ h => (List.not_mem_nil h).elim, h0⟩, fun i x acc m' hx hI => ?_, fun acc m' hI => hq acc m' hI.1 hI.2.1 hI.2.2⟩
  have hi : i < items.length := by
    rcases Nat.lt_or_ge i items.length with h | h
    · exact h
    · rw [List.getElem?_eq_none h] at hx
      cases hx
  obtain ⟨e, hP, hJ⟩ := hI
  refine hb _ i x acc m' hx hi (by omega) hJ fun d m2 hd hj => ⟨by rw [List.length_append, e]; rfl, fun d' h' => ?_, hj⟩
  rcases List.mem_append.mp h' with h' | h'
  · exact hP d' h'
  · rw [List.mem_singleton.mp h']
    exact hd
theorem atI_some {α : Type} {l : List α} {i : Int} (h0 : 0 ≤ i) (h : i < l.length) : ∃ x, x ∈ l ∧ atI l i = some x := by
  have hn : i.toNat < l.length := by omega
  refine ⟨l[i.toNat], List.getElem_mem hn, ?_⟩
  unfold atI ixN
  rw [if_pos h0, if_pos h]
  exact List.getElem?_eq_getElem hn
end DL
/-! DLl: data that may be compared and shown. -/
namespace DL
open PySem PySem.Spec PyProof.Rows L2
theorem canAll : ∀ {ds : List PyData}, (∀ d ∈ ds, d.canLay0 = true) → PyData.canLayAll0 ds = true
  | [], _ => by rw [PyData.canLayAll0]
  | d :: ds, h => by
    rw [PyData.canLayAll0, h d (List.mem_cons_self ..), canAll fun e he => h e (List.mem_cons_of_mem _ he)]
    rfl
theorem depAll {n : Nat} : ∀ {ds : List PyData}, (∀ d ∈ ds, d.depth ≤ n) → PyData.depthAll ds ≤ n
  | [], _ => by rw [PyData.depthAll]; exact Nat.zero_le _
  | d :: ds, h => by
    rw [PyData.depthAll]
    exact Nat.max_le.mpr ⟨h d (List.mem_cons_self ..), depAll fun e he => h e (List.mem_cons_of_mem _ he)⟩
theorem shaped_list {ds : List PyData} (h : ∀ d ∈ ds, d.canLay0 = true ∧ d.depth ≤ 63) : SeqAt.shaped (.list ds) = true := by
  have h1 : (PyData.list ds).canLay0 = true := by rw [PyData.canLay0]; exact canAll fun d hd => (h d hd).1
  have h2 : (PyData.list ds).depth ≤ 64 := by rw [PyData.depth]; exact Nat.succ_le_succ (depAll fun d hd => (h d hd).2)
  unfold SeqAt.shaped
  rw [h1, decide_eq_true h2]
  rfl
theorem shaped_nil : SeqAt.shaped (.list []) = true := shaped_list fun _ h => (List.not_mem_nil h).elim
theorem eqv_nil : ∀ ds : List PyData, PyData.eqv (.list ds) (.list []) = ds.isEmpty
  | [] => by rw [PyData.eqv, PyData.eqvAll]; rfl
  | _ :: _ => by rw [PyData.eqv, PyData.eqvAll]; rfl
theorem can_str {x : Str} (h : PyData.strOk x = true) : (PyData.str x).canLay0 = true ∧ (PyData.str x).depth ≤ 63 := by
  rw [PyData.canLay0, PyData.depth]
  exact ⟨h, by decide⟩
theorem can_int (i : Int) : (PyData.int i).canLay0 = true ∧ (PyData.int i).depth ≤ 63 := by
  rw [PyData.canLay0, PyData.depth]
  exact ⟨rfl, by decide⟩
theorem strOk_of {x : Str} (h : ∀ c ∈ x.cps.toList, c < 1114112) : PyData.strOk x = true := by
  unfold PyData.strOk
  rw [← Array.all_toList, List.all_eq_true]
  intro c hc
  exact decide_eq_true (h c hc)
theorem strOk_mem {x : Str} (h : PyData.strOk x = true) : ∀ c ∈ x.cps.toList, c < 1114112 := by
  unfold PyData.strOk at h
  rw [← Array.all_toList, List.all_eq_true] at h
  intro c hc
  exact of_decide_eq_true (h c hc)
theorem find_lt (x y : Str) : (Txt.find x y < 0) ↔ (Builtin.Str.occurrences x y 0 x.length 1).isEmpty = true := by
  unfold Txt.find
  cases Builtin.Str.occurrences x y 0 x.length 1 with
  | nil => exact ⟨fun _ => rfl, fun _ => by show (-1 : Int) < 0; decide⟩
  | cons i t =>
    refine ⟨fun h => ?_, fun h => by cases h⟩
    have h' : (i : Int) < 0 := h
    omega
theorem find_one (x : Str) (c : Nat) : (Txt.find x ⟨#[c]⟩ < 0) ↔ c ∉ x.cps.toList := by
  rw [find_lt]
  have h := StrLaws.found_one x c
  by_cases hc : c ∈ x.cps.toList
  · rw [decide_eq_true hc, Bool.not_eq_true'] at h
    rw [h]
    exact ⟨fun z => (by cases z), fun z => (z hc).elim⟩
  · rw [decide_eq_false hc, Bool.not_eq_false'] at h
    rw [h]
    exact ⟨fun _ => hc, fun _ => rfl⟩
theorem allD_map {α : Type} (f : α → PyData) : ∀ (c : List α) (Q : List PyData → Prop), Q (c.map f) → allD (c.map fun n => E.dat (f n)) Q
  | [], _, h => h
  | a :: c, Q, h => allD_map f c (fun r => Q (f a :: r)) h
theorem allD_dat : ∀ (c : List PyData) (Q : List PyData → Prop), Q c → allD (c.map E.dat) Q
  | [], _, h => h
  | a :: c, Q, h => allD_dat c (fun r => Q (a :: r)) h
theorem shaped_ints (c : List Int) : SeqAt.shaped (.list (c.map .int)) = true := shaped_list fun d hd => by
  obtain ⟨i, _, rfl⟩ := List.mem_map.mp hd
  exact can_int i
theorem wp_loc {m : Mm} {k : Nat} {es : List E} {Q : Nat → List E → Prop} (hm : m[k]? = some (.lst es)) (h : Q k es) : onLst' m (.loc k) Q := by
  show (match m[k]? with | some (.lst es) => Q k es | _ => False)
  rw [hm]
  exact h
theorem wp_pop {m : Mm} {k : Nat} {es : List E} {e : E} {Q : E → Mm → Prop} (hm : m[k]? = some (.lst (es ++ [e]))) (h : Q e (m.set k (.lst es))) : onLst' m (.loc k) fun k es => ∃ e, es[es.length - 1]? = some e ∧ Q e (m.set k (.lst es.dropLast)) := by
  refine wp_loc hm ⟨e, ?_, ?_⟩
  · rw [List.length_append, List.length_singleton, Nat.add_sub_cancel, List.getElem?_append_right (Nat.le_refl _), Nat.sub_self]
    rfl
  · rw [List.dropLast_concat]
    exact h
theorem wp_if {b : Bool} {A B : Prop} (h1 : b = true → A) (h2 : b = false → B) : if b = true then A else B := by
  cases b
  · exact h2 rfl
  · exact h1 rfl
theorem last_or {α : Type} (c : List α) : c = [] ∨ ∃ c0 x, c = c0 ++ [x] := by
  rcases List.eq_nil_or_concat c with h | ⟨c0, x, h⟩
  · exact Or.inl h
  · exact Or.inr ⟨c0, x, by rw [h]; simp⟩
theorem wp_idx {m : Mm} {k : Nat} {es : List E} {e : E} {i : Int} {Q : E → Prop} (hm : m[k]? = some (.lst es)) (he : atI es i = some e) (h : Q e) : ixE m (.loc k) (.int i) Q := by
  show (match m[k]? with | some (.lst es) => onI (.int i) fun i => ∃ e, atI es i = some e ∧ Q e | some (.dic kvs) => onKey (.int i) fun k => ∃ e, lookD kvs k = some e ∧ Q e | _ => False)
  rw [hm]
  exact ⟨e, he, h⟩
theorem cut_len {α : Type} (xs : List α) (lo hi : Option Int) : (cutD xs lo hi).length ≤ xs.length := by
  unfold cutD
  rw [List.length_take, List.length_drop]
  omega
theorem cut63 {α : Type} {xs : List α} (h : xs.length ≤ 63) (lo hi : Option Int) : (cutD xs lo hi).length ≤ 63 := Nat.le_trans (cut_len _ _ _) h
theorem wp_appV {i k : Nat} {g : Gm} {m : Mm} {es : List E} {te : DTE} {Q : E → Mm → Prop} (hg : g[i]? = some (some (.loc k))) (hm : m[k]? = some (.lst es))
    (h : te g m fun e m2 => onLst' m2 (.loc k) fun k es => es.length < sizeLine ∧ Q (.dat .none) (m2.set k (.lst (es ++ [e])))) : dApp (dVar i) te g m Q := by
  unfold dApp dVar
  rw [hg]
  exact wp_loc hm h
theorem wp_frz {k : Nat} {t : DTS} {D : DEnds} {g : Gm} {m : Mm} {es : List E} (hm : m[k]? = some (.lst es)) (h : allD es fun ds => t D (frG k (.list ds) g) ((m.set k .gone).map (frO k (.list ds)))) : dFrz k t D g m := by
  unfold dFrz
  exact wp_loc hm h
/-- calls, met from behind: R is what comes after -/
theorem call_deck {n k : Nat} {cost : Int} {Pre : List PyData → Prop} {Post : List PyData → PyData → Prop} {c : List Int} {i j : Int} {rest : Mm} {R : E → Mm → Prop} (ds : List PyData) (hk : ds.length + 1 = k) (hl : ds.length = n) (hp : Pre ds)
    (hc : c.length ≤ 63) (hi : 0 ≤ i ∧ i ≤ 2 ^ 40) (hj : 0 ≤ j ∧ j + cost ≤ 2 ^ 40) (q : ∀ d c' i' j', c'.length ≤ 63 → 0 ≤ i' ∧ i' ≤ 2 ^ 40 → j ≤ j' ∧ j' ≤ j + cost → Post ds d → R (.dat d) (deckM c' i' j')) :
    (E.loc 1 :: ds.map .dat).length = k ∧ 2 ≤ (deckM c i j ++ rest).length ∧ ((deckM c i j ++ rest).take 2).all (inO 2) = true ∧ (E.loc 1 :: ds.map .dat).all (inE 2) = true ∧ deckSp n cost Pre Post (E.loc 1 :: ds.map .dat) ((deckM c i j ++ rest).take 2) R := by
  have e2 : (deckM c i j ++ rest).take 2 = deckM c i j := rfl
  refine ⟨by rw [List.length_cons, List.length_map, hk], ?_, by rw [e2]; exact deck_in c i j, ?_, ds, j, rfl, hl, hp, ?_, hj, fun d m' j' ok hj' hd => ?_⟩
  · rw [List.length_append]
    exact Nat.le_trans (Nat.le_refl 2) (Nat.le_add_right 2 _)
  · rw [List.all_cons, dats_in]
    rfl
  · rw [e2]
    exact ⟨c, i, rfl, hc, hi⟩
  · obtain ⟨c', i', rfl, hc', hi'⟩ := ok
    exact q d c' i' j' hc' hi' hj' hd
/-- a draw -/
theorem call_draw {n : Int} {c : List Int} {i j : Int} {rest : Mm} {R : E → Mm → Prop} (hn : 0 < n ∧ n < 1073741824) (hc : c.length ≤ 63) (hi : 0 ≤ i ∧ i ≤ 2 ^ 40) (hj : 0 ≤ j ∧ j + 1 ≤ 2 ^ 40)
    (q : ∀ (r : Int) c' i' j', c'.length ≤ 63 → 0 ≤ i' ∧ i' ≤ 2 ^ 40 → j ≤ j' ∧ j' ≤ j + 1 → 0 ≤ r ∧ r < n → R (.dat (.int r)) (deckM c' i' j')) :
    [E.loc 1, .dat (.int n)].length = 2 ∧ 2 ≤ (deckM c i j ++ rest).length ∧ ((deckM c i j ++ rest).take 2).all (inO 2) = true ∧ [E.loc 1, .dat (.int n)].all (inE 2) = true ∧ spDraw [E.loc 1, .dat (.int n)] ((deckM c i j ++ rest).take 2) R :=
  call_deck [.int n] rfl rfl ⟨n, rfl, hn.1, hn.2⟩ hc hi hj fun d c' i' j' hc' hi' hj' hd => by
    obtain ⟨n', r, e, rfl, h0, h1⟩ := hd
    cases e
    exact q r c' i' j' hc' hi' hj' ⟨h0, h1⟩
/-- a def of data -/
theorem call_pureR {k : Nat} {Pre : List PyData → Prop} {f : List PyData → PyData} {m : Mm} {R : E → Mm → Prop} (ds : List PyData) (hl : ds.length = k) (hp : Pre ds) (q : ∀ m', R (.dat (f ds)) m') :
    (ds.map E.dat).length = k ∧ 0 ≤ m.length ∧ (m.take 0).all (inO 0) = true ∧ (ds.map E.dat).all (inE 0) = true ∧ pureSp k Pre f (ds.map .dat) (m.take 0) R :=
  ⟨by rw [List.length_map]; exact hl, Nat.zero_le _, rfl, dats_in 0 ds, ds, rfl, hl, hp, rfl, q⟩
end DL
/-! DLm: xs[:0:-1]; reversed(range(n)); list(range(n)). -/
namespace DL
open PySem PySem.Spec PyProof.Rows L2

theorem down_range (m : Nat) : ((List.range m).map fun k => m - k) = ((List.range m).map (· + 1)).reverse := by
  apply List.ext_getElem
  · simp
  · intro i h1 h2
    simp only [List.length_map, List.length_range] at h1
    rw [List.getElem_map, List.getElem_reverse, List.getElem_map]
    simp only [List.getElem_range, List.length_map, List.length_range]
    omega
theorem drop_pick {α : Type} (xs : List α) : ((List.range (xs.length - 1)).map (· + 1)).filterMap (xs[·]?) = xs.drop 1 := by
  have h := PySem.W.krv_all (xs.drop 1).toArray
  rw [List.filterMap_map]
  have e : (xs.drop 1).toArray.size = xs.length - 1 := by rw [List.size_toArray, List.length_drop]
  rw [e] at h
  refine Eq.trans ?_ h
  congr 1
  funext k
  show xs[k + 1]? = (xs.drop 1).toArray[k]?
  rw [List.getElem?_toArray, List.getElem?_drop, Nat.add_comm]
theorem pick_but0 (items : Array Value) : slicePick items none (some 0) (some (-1)) = (items.toList.drop 1).reverse.toArray := by
  have hx : slicePick items none (some 0) (some (-1)) = ((sliceRange ((items.size : Int) - 1) (max (-1) (min 0 ((items.size : Int) - 1))) (-1)).filterMap (items[·]?)).toArray := rfl
  rw [hx]
  have h1 : ¬ ((-1 : Int) > 0) := by decide
  have e : sliceRange ((items.size : Int) - 1) (max (-1) (min 0 ((items.size : Int) - 1))) (-1) = (List.range (items.size - 1)).map fun k => items.size - 1 - k := by
    unfold sliceRange
    by_cases h : 2 ≤ items.size
    · have e0 : max (-1 : Int) (min 0 ((items.size : Int) - 1)) = 0 := by omega
      have e1 : (items.size : Int) - 1 > 0 := by omega
      have e2 : ((items.size : Int) - 1 - 0 - -1 - 1) / (- -1) = ((items.size - 1 : Nat) : Int) := by
        rw [show (- -1 : Int) = 1 by decide, Int.ediv_one]
        omega
      rw [e0]
      simp only [h1, if_false, e1, if_true, e2, Int.toNat_natCast]
      apply List.map_congr_left
      intro k hk
      have := List.mem_range.mp hk
      omega
    · have e1 : ¬ ((items.size : Int) - 1 > max (-1 : Int) (min 0 ((items.size : Int) - 1))) := by omega
      have e2 : items.size - 1 = 0 := by omega
      simp only [h1, if_false, e1, e2]
      rfl
  rw [e, down_range, List.filterMap_reverse]
  have h := drop_pick items.toList
  rw [Array.length_toList] at h
  have e3 : (fun k : Nat => items[k]?) = fun k : Nat => items.toList[k]? := by
    funext k
    rw [Array.getElem?_toList]
  rw [e3, h]
def tBut0 (K : PySem.W.Frag) (te : TE) : TE := fun σ H Q => te σ H fun x H1 => ∃ a xs, x = .ref a ∧ SqL K H1 a xs ∧ ∀ p, H1 p = none → Q (.ref p) (upd H1 p (.lst (xs.drop 1).reverse))
section
variable {X : Cx} {e : Expr} {te : TE}
theorem vals_drop : ∀ {vs : List V} {us : List Value} (n : Nat), Vals vs us → Vals (vs.drop n) (us.drop n)
  | _, _, 0, h => h
  | _, _, _ + 1, .nil => .nil
  | _, _, n + 1, .cons _ t => vals_drop n t
theorem pe_but0 {k k0 : Nat} {q0 q1 q2 q3 q4 : Pos} (he : PE X e te) : PE X (.Subscript e (.Slice none (some (.Constant (.int 0) k0 q0)) (some (.UnaryOp .USub (.Constant (.int 1) k q1) q2)) q3) q4) (tBut0 X.K te) := by
  refine ⟨fun pins s σ H QQ Iv hh => ?_⟩
  refine Subscript_ (thn (he.run pins s σ H _ Iv hh) fun w1 z1 ⟨x, G1, J1, y1, b1⟩ => ?_)
  obtain ⟨a, xs, ex, hx, q⟩ := b1
  subst ex
  cases y1
  have up : PO X (some (.Constant (.int 0) k0 q0)) (tPart (tC (.int 0))) := po_some pe_int
  have st : PO X (some (.UnaryOp .USub (.Constant (.int 1) k q1) q2)) (tPart (tUn (rU fun i => .int (-i)) (tC (.int 1)))) := po_some (pe_un un_neg pe_int)
  refine wpAny_Slice (thn (po_none.run pins z1 σ G1 (fun o G2 => o = none ∧ G2 = G1) J1 ⟨rfl, rfl⟩) fun wl z2 ⟨l, G2, J2, pl, el, f2⟩ => ?_)
  subst el f2
  refine thn (up.run pins z2 σ G2 (fun o G3 => o = some 0 ∧ G3 = G2) J2 ⟨0, rfl, rfl, rfl⟩) fun wu z3 ⟨u, G3, J3, pu, eu, f3⟩ => ?_
  subst eu f3
  refine thn (st.run pins z3 σ G3 (fun o G4 => o = some (-1) ∧ G4 = G3) J3 ⟨1, rfl, -1, rfl, rfl, rfl⟩) fun ws z4 ⟨o, G4, J4, ps, eo, f4⟩ => ?_
  subst eo f4
  have J5 : Inv X pins σ G4 { z4 with heap := z4.heap.push { cls := .type "slice", data := .fields #[wl, wu, ws] } } := J4.kept (t' := z4.toks) fun c oc qc => Heap.get?_push_of_some _ qc
  obtain ⟨its, r, ht, hz⟩ := J5.list hx
  have hl := r.length
  show wpAny (model X.prog X.w) X.A (subscriptTail e (.Slice none (some (.Constant (.int 0) k0 q0)) (some (.UnaryOp .USub (.Constant (.int 1) k q1) q2)) q3) (.ref a) (.ref z4.heap.objs.size)) (EP X pins σ QQ) X.xe { z4 with heap := z4.heap.push { cls := .type "slice", data := .fields #[wl, wu, ws] } }
  refine tail_any (ops := [.ref a, .ref z4.heap.objs.size]) ht.isList.typeIs (PySem.slot_list_getitem.lookup) ?_ (by with_unfolding_all rfl)
  refine wpAny_getItem_list_slice ht.isList (Heap.IsSliceOf.new _ wl wu ws) pl pu ps (by decide) ?_ (by rw [List.size_toArray]; omega)
  rw [pick_but0]
  refine ⟨.ref _, _, J5.laid (t' := z4.toks) (o := .lst (xs.drop 1).reverse) (fun c oc qc => Heap.get?_push_of_some _ qc) (Nat.le_refl _) ?_, rfl, q _ (J5.hok.fresh (Nat.le_refl _))⟩
  refine ⟨by rw [List.length_reverse, List.length_drop]; omega, _, 0, (vals_drop 1 r).reverse, Heap.get?_push_size _ rfl⟩
end
section
variable {X : Cx} {e e1 tg : Expr} {t1 : DTE} {pos : Pos}
/-- xs[:0:-1] -/
def dBut0 (ta : DTE) : DTE := fun g m Q => ta g m fun a m1 => onList m1 a fun ds => Q (.dat (.list (ds.drop 1).reverse)) m1
theorem d_but0 {k k0 : Nat} {q0 q1 q2 q3 : Pos} (ha : DE X e1 t1) : DE X (.Subscript e1 (.Slice none (some (.Constant (.int 0) k0 q0)) (some (.UnaryOp .USub (.Constant (.int 1) k q1) q2)) q3) pos) (dBut0 t1) := by
  obtain ⟨_, pa, sa⟩ := ha.ex
  refine ⟨_, pe_but0 pa, fun W S g m σ H Q R r0 sl hq k => ?_⟩
  refine sa W S g m σ H _ _ r0 sl hq fun x H1 S1 a m1 r1 l1 ea q1 => ?_
  obtain ⟨p, vs, ds, rfl, hH, hA, q2⟩ := onList_of q1 r1 ea
  exact ⟨p, vs, rfl, Or.inl (Or.inl hH), new_lst r1 (DvAll.reverse (DvAll.drop 1 hA)) fun v H' S' d r4 l4 e4 e => k v H' S' (.dat d) m1 r4 (l1.trans l4) e4 (by rw [e]; exact q2)⟩
/-- n - 1, .., 0 -/
def downD (n : Nat) : List PyData := (List.range n).map fun (i : Nat) => .int ((n : Int) - 1 - (i : Int))
theorem downD_len (n : Nat) : (downD n).length = n := by unfold downD; rw [List.length_map, List.length_range]
theorem downD_get {n i : Nat} {d : PyData} (h : (downD n)[i]? = some d) : i < n ∧ d = .int ((n : Int) - 1 - (i : Int)) := by
  unfold downD at h
  rw [List.getElem?_map] at h
  by_cases hi : i < n
  · rw [List.getElem?_range hi] at h
    exact ⟨hi, (Option.some.inj h).symm⟩
  · rw [List.getElem?_eq_none (by rw [List.length_range]; omega)] at h
    cases h
def diRv1 (ta : DTE) : DTI := fun g m Q => ta g m fun e m1 => onD e fun d => onI d fun j => (-(2 ^ 62) ≤ j ∧ j < 2 ^ 62) ∧ Q (downD j.toNat) m1
theorem di_revR1 {a : Expr} {ta : DTE} {p p2 pos2 : Pos} (hm : X.mg "reversed" = none) (hm2 : X.mg "range" = none) (h : DE X a ta) (hg : Gl X "reversed" := by rfl) (hg2 : Gl X "range" := by rfl)
    (hs : starEach [a] X.env = (false, eval a X.env) :: starEach [] X.env := by rfl) (hs2 : starEach [.Call (.Name "range" p2) [a] [] pos2] X.env = (false, eval (.Call (.Name "range" p2) [a] [] pos2) X.env) :: starEach [] X.env := by rfl) :
    DI X tg (.Call (.Name "reversed" p) [.Call (.Name "range" p2) [a] [] pos2] [] pos) (diRv1 ta) := by
  obtain ⟨_, pa, s⟩ := h.ex
  refine ⟨_, pi_revR hg hm (prg_1 hg2 hm2 pa hs) hs2, fun W S g m σ H Q R r0 sl hq k => ?_⟩
  refine s W S g m σ H _ _ r0 sl hq fun v H1 S1 e m1 r1 l1 ev q1 => ?_
  obtain ⟨d, rfl, q2⟩ := onD_of q1
  obtain ⟨j, rfl, q3⟩ := onI_of q2
  refine ⟨j, dv_int ev, by decide, by decide, q3.1.1, q3.1.2, k _ H1 S1 _ m1 r1 l1 ?_ q3.2⟩
  intro W' S2 m2 H2 l r
  have e0 : (j - 0).toNat = j.toNat := by rw [Int.sub_zero]
  refine ⟨fun i d hd => ?_, by rw [downD_len, e0]; exact Nat.le_refl _⟩
  obtain ⟨hi, rfl⟩ := downD_get hd
  refine ⟨by rw [e0]; exact hi, fun x H3 y => ?_⟩
  obtain ⟨e, y⟩ := y
  subst e
  subst y
  refine ⟨S2, r, Le.refl _, ?_⟩
  have e2 : (0 : Int) + (((j - 0).toNat : Nat) : Int) - 1 + ((i : Nat) : Int) * -1 = ((j.toNat : Nat) : Int) - 1 - (i : Int) := by rw [e0]; omega
  rw [e2]
  exact .int _
/-- list(range(n)) -/
def dLstR (ta : DTE) : DTE := fun g m Q => ta g m fun e m1 => onD e fun d => onI d fun j => (0 ≤ j ∧ j ≤ 16777216) ∧ Q (.dat (.list (rangeD 0 j.toNat))) m1
theorem rg_dv {K : PySem.W.Frag} {F : Hp} (j : Int) : DvAll K F (rgV 0 j) (rangeD 0 j.toNat) := by
  unfold rgV rangeD
  rw [Int.sub_zero]
  induction List.range j.toNat with
  | nil => exact .nil
  | cons a l ih => exact .cons (.int _) ih
theorem d_lstR {a : Expr} {ta : DTE} {p p2 pos2 : Pos} (hm : X.mg "list" = none) (hm2 : X.mg "range" = none) (h : DE X a ta) (hc : X.calm = true) (hg : Gl X "list" := by rfl) (hg2 : Gl X "range" := by rfl)
    (hs : starEach [a] X.env = (false, eval a X.env) :: starEach [] X.env := by rfl) (hs2 : starEach [.Call (.Name "range" p2) [a] [] pos2] X.env = (false, eval (.Call (.Name "range" p2) [a] [] pos2) X.env) :: starEach [] X.env := by rfl) :
    DE X (.Call (.Name "list" p) [.Call (.Name "range" p2) [a] [] pos2] [] pos) (dLstR ta) := by
  obtain ⟨_, pa, s⟩ := h.ex
  refine ⟨_, pe_listRg hc hg hm (prg_1 hg2 hm2 pa hs) hs2, fun W S g m σ H Q R r0 sl hq k => ?_⟩
  refine s W S g m σ H _ _ r0 sl hq fun v H1 S1 e m1 r1 l1 ev q1 => ?_
  obtain ⟨d, rfl, q2⟩ := onD_of q1
  obtain ⟨j, rfl, q3⟩ := onI_of q2
  exact ⟨j, dv_int ev, RgOk.of_le (by decide) q3.1.2 (by decide) q3.1.1, new_lst r1 (rg_dv j) fun v H' S' d r4 l4 e4 e => k v H' S' (.dat d) m1 r4 (l1.trans l4) e4 (by rw [e]; exact q3.2)⟩
end
end DL
/-! DLn: how long the repr of plain data is. -/
namespace DL
open PySem PySem.Spec PyProof.Rows L2
structure Bd (n k : Nat) (d : PyData) : Prop where
  able : d.showable = true
  nodic : d.hasDict = false
  deep : d.depth ≤ k
  long : d.shown.length ≤ n
theorem Bd.mono {n k n' k' : Nat} {d : PyData} (h : Bd n k d) (hn : n ≤ n') (hk : k ≤ k') : Bd n' k' d := ⟨h.able, h.nodic, Nat.le_trans h.deep hk, Nat.le_trans h.long hn⟩
theorem Bd.shows {n k : Nat} {d : PyData} (h : Bd n k d) (hn : n ≤ 16777216) (hk : k ≤ 60) : Shows d := ⟨h.able, Or.inl h.nodic, Nat.le_trans h.deep hk, Nat.le_trans h.long hn⟩
theorem shownAll_map : ∀ xs : List PyData, PyData.shownAll xs = xs.map PyData.shown
  | [] => by rw [PyData.shownAll]; rfl
  | x :: xs => by rw [PyData.shownAll, shownAll_map xs]; rfl
theorem ableAll : ∀ {xs : List PyData}, (∀ d ∈ xs, d.showable = true) → PyData.showableAll xs = true
  | [], _ => by rw [PyData.showableAll]
  | x :: xs, h => by
    rw [PyData.showableAll, h x (List.mem_cons_self ..), ableAll fun d hd => h d (List.mem_cons_of_mem _ hd)]
    rfl
theorem nodicAll : ∀ {xs : List PyData}, (∀ d ∈ xs, d.hasDict = false) → PyData.hasDictAll xs = false
  | [], _ => by rw [PyData.hasDictAll]
  | x :: xs, h => by
    rw [PyData.hasDictAll, h x (List.mem_cons_self ..), nodicAll fun d hd => h d (List.mem_cons_of_mem _ hd)]
    rfl
theorem sum_le {n : Nat} : ∀ {xs : List PyData}, (∀ d ∈ xs, d.shown.length ≤ n) → ((xs.map PyData.shown).map (·.length)).sum ≤ xs.length * n
  | [], _ => Nat.zero_le _
  | x :: xs, h => by
    have h1 := h x (List.mem_cons_self ..)
    have h2 := sum_le (xs := xs) fun d hd => h d (List.mem_cons_of_mem _ hd)
    rw [List.map_cons, List.map_cons, List.sum_cons, List.length_cons, Nat.succ_mul]
    omega
theorem join_len (sep : Str) (ts : List Str) : (Str.join sep ts).length = (ts.map (·.length)).sum + (ts.length - 1) * sep.length := by
  rw [← TL.join_eq]
  exact size_glued sep ts
theorem bd_seq {n k : Nat} {xs : List PyData} (h : ∀ d ∈ xs, Bd n k d) : Bd (xs.length * (n + 2) + 4) (k + 1) (.tuple xs) ∧ Bd (xs.length * (n + 2) + 4) (k + 1) (.list xs) := by
  have h1 := ableAll fun d hd => (h d hd).able
  have h2 := nodicAll fun d hd => (h d hd).nodic
  have h3 := depAll fun d hd => (h d hd).deep
  have h4 := sum_le fun d hd => (h d hd).long
  have hj : (Str.join ", " (PyData.shownAll xs)).length ≤ xs.length * (n + 2) := by
    rw [join_len, shownAll_map, List.length_map]
    have : ((", " : String) : Str).length = 2 := rfl
    rw [this, Nat.mul_add]
    omega
  refine ⟨⟨?_, ?_, ?_, ?_⟩, ⟨?_, ?_, ?_, ?_⟩⟩
  · rw [PyData.showable]; exact h1
  · rw [PyData.hasDict]; exact h2
  · rw [PyData.depth]; omega
  · rw [PyData.shown]
    unfold tupleText
    rw [strlen_append, strlen_append]
    have a : (Str.ofString "(").length = 1 := rfl
    have b : (Str.ofString (if ((PyData.shownAll xs).length == 1) = true then ",)" else ")")).length ≤ 2 := by
      split
      · decide
      · decide
    omega
  · rw [PyData.showable]; exact h1
  · rw [PyData.hasDict]; exact h2
  · rw [PyData.depth]; omega
  · rw [PyData.shown]
    have a := listText_len_le (PyData.shownAll xs)
    rw [shownAll_map, List.length_map] at a
    rw [shownAll_map, Nat.mul_add]
    omega
theorem bd_tuple {n k l : Nat} {xs : List PyData} (h : ∀ d ∈ xs, Bd n k d) (hl : xs.length ≤ l) : Bd (l * (n + 2) + 4) (k + 1) (.tuple xs) := (bd_seq h).1.mono (Nat.add_le_add_right (Nat.mul_le_mul_right _ hl) _) (Nat.le_refl _)
theorem bd_list {n k l : Nat} {xs : List PyData} (h : ∀ d ∈ xs, Bd n k d) (hl : xs.length ≤ l) : Bd (l * (n + 2) + 4) (k + 1) (.list xs) := (bd_seq h).2.mono (Nat.add_le_add_right (Nat.mul_le_mul_right _ hl) _) (Nat.le_refl _)
theorem bd_str {x : Str} {n : Nat} (hp : Plain x) (hl : x.length ≤ n) : Bd (10 * n + 2) 0 (.str x) := by
  refine ⟨by rw [PyData.showable], by rw [PyData.hasDict], by rw [PyData.depth]; exact Nat.le_refl _, ?_⟩
  have h := StrLaws.reprText_len x hp
  rw [PyData.shown]
  omega
theorem small_text : (List.range 1000).all (fun (i : Nat) => decide ((Str.ofString (toString (i : Int))).length ≤ 10)) = true := by decide +kernel
theorem bd_int {i : Int} (h0 : 0 ≤ i) (h1 : i < 1000) : Bd 10 0 (.int i) := by
  have e : ((i.toNat : Nat) : Int) = i := by omega
  refine ⟨?_, by rw [PyData.hasDict], by rw [PyData.depth]; exact Nat.le_refl _, ?_⟩
  · rw [PyData.showable]
    exact decide_eq_true (natAbs_log2 (n := 10) (by omega) (by decide) (by decide))
  · rw [PyData.shown, ← e]
    exact of_decide_eq_true (List.all_eq_true.mp small_text i.toNat (List.mem_range.mpr (by omega)))
end DL
/-! DLo: a comprehension over a list of the ledger, which stays as it is meanwhile. -/
namespace DL
open PySem PySem.Spec PyProof.Rows L2
def YldG (K : PySem.W.Frag) (J : It) (S : Sd) (items : List PyData) (G : Mm → Prop) : Prop := ∀ (W : Wd) (S1 : Sd) (m1 : Mm) (H1 : Hp), Le S S1 → Rep K W S1 m1 H1 → G m1 →
  (∀ i d, items[i]? = some d → J.go i H1 ∧ ∀ x H2, J.yld i H1 x H2 → ∃ S2, Rep K W S2 m1 H2 ∧ Le S1 S2 ∧ Dv K S2.F x d) ∧ J.stop items.length H1
def dLcM (ta : DTE) (dg : DTG) (dt : DTT) (te : DTE) (vs : List Nat) : DTE := fun g m Q => ta g m fun a m1 => onLst' m1 a fun k es => allD es fun items => ∃ I : Nat → List PyData → Mm → Prop, I 0 [] m1 ∧
  (∀ i x acc m, items[i]? = some x → I i acc m → m[k]? = some (.lst es) ∧ dg (.dat x) (wipeG g vs) m fun g2 m2 => dt g2 m2 fun b m3 => if b = true then te g2 m3 fun e m4 => onD e fun d => acc.length < sizeLine ∧ I (i + 1) (acc ++ [d]) m4 else I (i + 1) acc m3) ∧
  ∀ acc m, I items.length acc m → m[k]? = some (.lst es) ∧ Q (.dat (.list acc)) m
theorem yldG_led {K : PySem.W.Frag} {S : Sd} {a : Addr} {k : Nat} {items : List PyData} (hk : S.A[k]? = some a) : YldG K (Itl K a) S items fun m => m[k]? = some (.lst (items.map .dat)) := by
  intro W S1 m1 H1 l r hm
  obtain ⟨p, hp, e⟩ : EvE K S1 (.ref a) (.loc k) := EvE.mono l ⟨a, hk, rfl⟩
  cases e
  obtain ⟨vs, hH, er⟩ := r.ok k a _ hp hm
  have h1 : SqL K H1 a vs := Or.inl (Or.inl hH)
  refine ⟨fun i d hd => ?_, vs, h1, by rw [EvEs.length er, List.length_map]; exact Nat.le_refl _⟩
  obtain ⟨v, hv, rv⟩ := evs_get (j := i) (e := .dat d) er (by rw [List.getElem?_map, hd]; rfl)
  refine ⟨⟨vs, v, h1, hv⟩, fun x H2 y => ?_⟩
  obtain ⟨e, y⟩ := y
  subst e
  have : x = v := Option.some.inj ((y vs h1).symm.trans hv)
  subst this
  exact ⟨S1, r, Le.refl _, rv⟩
theorem snd_lcM {K : PySem.W.Frag} {tl : TE} {ta : DTE} {tg : TG} {tt : TT} {tr : TE} {vs : List Nat} {dg : DTG} {dt : DTT} {te : DTE} (hi : Snd K tl ta) (hg : SndG K tg dg) (ho : GOnly tg vs) (ht : SndT K tt dt) (he : Snd K tr te) :
    Snd K (tLc (iAny K tl) tg tt tr vs) (dLcM ta dg dt te vs) := by
  intro W S g m σ H Q R r0 sl hq k
  refine hi W S g m σ H _ _ r0 sl hq fun v H1 S1 a0 m1 r1 l1 ev q1 => ?_
  obtain ⟨kk, p, ws, es, rfl, hp, rfl, hm, hH, er, q2⟩ := onLst'_of q1 r1 ev
  obtain ⟨items, rfl, q3⟩ := allD_of q2
  have y1 := yldG_led (K := K) (items := items) hp
  obtain ⟨I, i0, turn, fin⟩ := q3
  refine Or.inl ⟨p, ws, rfl, Or.inl (Or.inl hH), ?_⟩
  intro D hD
  have h0 := r1.fresh0 hD
  refine ⟨fun i n H => n = items.length - i ∧ i ≤ items.length ∧ ∃ S2 m us acc, Rep K W S2 m H ∧ Le S1 S2 ∧ D ∉ S2.A ∧ S2.F D = none ∧ H D = some (.lst us) ∧ DvAll K S2.F us acc ∧ I i acc m,
    ⟨_, rfl, Nat.zero_le _, S1, m1, [], [], r1.aside (r1.not_mem hD) (r1.freshF hD) h0, Le.refl _, r1.not_mem hD, r1.freshF hD, upd_same, .nil, i0⟩, ?_⟩
  rintro i n H ⟨rfl, hi, S2, m, us, acc, r2, l2, nA, nF, hHD, hus, i2⟩
  by_cases hlt : i < items.length
  · have r3 := r2.enter
    have tn := turn i _ acc m (List.getElem?_eq_getElem hlt) i2
    obtain ⟨ygo, _⟩ := y1 _ S2 m H l2 r3 tn.1
    obtain ⟨go, yy⟩ := ygo i items[i] (List.getElem?_eq_getElem hlt)
    refine Or.inr ⟨go, fun H' => ∃ S2 m us acc, Rep K W S2 m H' ∧ Le S1 S2 ∧ D ∉ S2.A ∧ S2.F D = none ∧ H' D = some (.lst us) ∧ DvAll K S2.F us acc ∧ I (i + 1) acc m, fun H' n => ⟨items.length - (i + 1), by omega, rfl, hlt, n⟩, fun x H4 hy => ?_⟩
    obtain ⟨S4, r4, l4, ex⟩ := yy x H4 hy
    have sl4 : Sl K S4 (wipe σ vs) (wipeG g vs) := sl_wipe (sl.mono ((l1.trans l2).trans l4)) vs
    have fact : ∀ {S' : Sd} {m' : Mm} {H' : Hp}, Rep K ⟨H, S2.A, S2.F⟩ S' m' H' → D ∉ S'.A ∧ S'.F D = none ∧ H' D = some (.lst us) := fun {S' m' H'} r => by
      refine ⟨fun z => ?_, ?_, r.kept D _ hHD nA⟩
      · rcases r.mine D z with q | q
        · exact nA q
        · have q' : H D = none := q
          rw [hHD] at q'
          cases q'
      · cases e : S'.F D with
        | none => rfl
        | some u =>
          rcases r.fnew D u e with q | q | q
          · have q' : S2.F D = some u := q
            rw [nF] at q'
            cases q'
          · have q' : H D = none := q
            rw [hHD] at q'
            cases q'
          · exact absurd q nA
    refine ho x σ H4 _ (hg _ S4 (wipeG g vs) m (wipe σ vs) H4 x (.dat items[i]) _ _ r4 sl4 ex tn.2 fun σ5 H5 S5 g5 m5 r5 l5 sl5 q5 => ?_)
    refine ht _ S5 g5 m5 σ5 H5 _ _ r5 sl5 q5 fun b H6 S6 m6 r6 l6 q6 => ?_
    have l46 := (l4.trans l5).trans l6
    cases b with
    | false =>
      obtain ⟨a1, a2, a3⟩ := fact r6
      exact ⟨S6, m6, us, acc, r2.back (Sub.refl _) r6, l2.trans l46, a1, a2, a3, DvAll.mono l46.f hus, q6⟩
    | true =>
      refine he _ S6 g5 m6 σ5 H6 _ _ r6 (sl5.mono l6) q6 fun y H7 S7 e7 m7 r7 l7 ev7 q7 => ?_
      obtain ⟨d, rfl, q8⟩ := onD_of q7
      obtain ⟨a1, a2, a3⟩ := fact r7
      have l27 := l46.trans l7
      exact ⟨us, a3, by rw [hus.length]; exact q8.1, S7, m7, us ++ [y], acc ++ [d], (r2.back (Sub.refl _) r7).aside a1 a2 h0, l2.trans l27, a1, a2, upd_same, DvAll.append (DvAll.mono l27.f hus) (.cons ev7 .nil), q8.2⟩
  · have e : i = items.length := by omega
    subst e
    have fn := fin acc m i2
    obtain ⟨_, yst⟩ := y1 W S2 m H l2 r2 fn.1
    obtain ⟨r3, l3⟩ := r2.known nA nF h0 hHD
    refine Or.inl ⟨yst, k (.ref D) H _ (.dat (.list acc)) m r3 ((l1.trans l2).trans l3) (Dv.lst upd_same (DvAll.mono l3.f hus)) fn.2⟩
section
variable {X : Cx} {tg iter e : Expr} {ifs : List Expr} {scope : Scope} {dg : DTG} {dt : DTT} {te ta : DTE} {pos : Pos}
theorem d_lcM (own : List (Str × Nat)) (hc : X.calm = true) (hN : X.N.Nodup) (hi : DE X iter ta) (ok : BlkOk X.N X.env.scope scope own) (hg : CG X scope tg (own.map (·.2)) dg) (ht : CT X scope ifs dt) (he : CE' X scope e te)
    (hs : ∀ x, foldedSetIterable iter X.env x = pure x := by intro _; rfl) : DE X (.ListComp e [⟨tg, iter, ifs, 0⟩] scope pos) (dLcM ta dg dt te (own.map (·.2))) := by
  obtain ⟨_, pi, si⟩ := hi.ex
  obtain ⟨_, pg, sg, og⟩ := hg.ex
  obtain ⟨_, pt, st⟩ := ht.ex
  obtain ⟨_, pe, se⟩ := he.ex
  exact ⟨_, pe_lc hc hN (pi_any pi) ok pg pt pe hs, snd_lcM si sg og st se⟩
end
theorem wp_dropApp {i k : Nat} {g : Gm} {m : Mm} {es : List E} {te : DTE} {D : DEnds} (hg : g[i]? = some (some (.loc k))) (hm : m[k]? = some (.lst es))
    (h : te g m fun e m2 => onLst' m2 (.loc k) fun k es => es.length < sizeLine ∧ D.nx g (m2.set k (.lst (es ++ [e])))) : dDrop (dApp (dVar i) te) D g m :=
  wp_appV (Q := fun _ m1 => D.nx g m1) hg hm h
/-- a def of the deck that leaves more on the ledger -/
def deckSpX (n : Nat) (cost : Int) (Pre : List PyData → Prop) (Post : List PyData → PyData → Prop) : DSp := fun es m Q => ∃ (ds : List PyData) (j : Int), es = .loc 1 :: ds.map .dat ∧ ds.length = n ∧ Pre ds ∧ DeckOk m j ∧ (0 ≤ j ∧ j + cost ≤ 2 ^ 40) ∧
  ∀ d c i j' rest, c.length ≤ 63 → (0 ≤ i ∧ i ≤ 2 ^ 40) → (j ≤ j' ∧ j' ≤ j + cost) → Post ds d → Q (.dat d) (deckM c i j' ++ rest)
theorem call_deckX {n k : Nat} {cost : Int} {Pre : List PyData → Prop} {Post : List PyData → PyData → Prop} {c : List Int} {i j : Int} {rest : Mm} {R : E → Mm → Prop} (ds : List PyData) (hk : ds.length + 1 = k) (hl : ds.length = n) (hp : Pre ds)
    (hc : c.length ≤ 63) (hi : 0 ≤ i ∧ i ≤ 2 ^ 40) (hj : 0 ≤ j ∧ j + cost ≤ 2 ^ 40) (q : ∀ d c' i' j' rest', c'.length ≤ 63 → 0 ≤ i' ∧ i' ≤ 2 ^ 40 → j ≤ j' ∧ j' ≤ j + cost → Post ds d → R (.dat d) (deckM c' i' j' ++ rest')) :
    (E.loc 1 :: ds.map .dat).length = k ∧ 2 ≤ (deckM c i j ++ rest).length ∧ ((deckM c i j ++ rest).take 2).all (inO 2) = true ∧ (E.loc 1 :: ds.map .dat).all (inE 2) = true ∧ deckSpX n cost Pre Post (E.loc 1 :: ds.map .dat) ((deckM c i j ++ rest).take 2) R := by
  have e2 : (deckM c i j ++ rest).take 2 = deckM c i j := rfl
  refine ⟨by rw [List.length_cons, List.length_map, hk], ?_, by rw [e2]; exact deck_in c i j, ?_, ds, j, rfl, hl, hp, ?_, hj, fun d c' i' j' rest' hc' hi' hj' hd => q d c' i' j' rest' hc' hi' hj' hd⟩
  · rw [List.length_append]
    exact Nat.le_trans (Nat.le_refl 2) (Nat.le_add_right 2 _)
  · rw [List.all_cons, dats_in]
    rfl
  · rw [e2]
    exact ⟨c, i, rfl, hc, hi⟩
end DL
/-! DLp: enumerate of a list. -/
namespace DL
open PySem PySem.Spec PyProof.Rows L2
def enumD (ds : List PyData) : List PyData := ds.mapIdx fun i d => .tuple [.int (i : Int), d]
theorem enumD_len (ds : List PyData) : (enumD ds).length = ds.length := by unfold enumD; rw [List.length_mapIdx]
theorem enumD_get {ds : List PyData} {i : Nat} {p : PyData} (h : (enumD ds)[i]? = some p) : ∃ d, ds[i]? = some d ∧ p = .tuple [.int (i : Int), d] := by
  unfold enumD at h
  rw [List.getElem?_mapIdx] at h
  cases e : ds[i]? with
  | none =>
    rw [e] at h
    cases h
  | some d =>
    rw [e] at h
    exact ⟨d, rfl, (Option.some.inj h).symm⟩
theorem yld_enum {K : PySem.W.Frag} {S : Sd} {a : Addr} {xs : List V} {ds : List PyData} (h : SqL K S.F a xs) (t : DvAll K S.F xs ds) : Yld K (Ite K a) S (enumD ds) := by
  intro W S1 m1 H1 l r
  have hh : SqL K H1 a xs := r.sub.sl (l.f.sl h)
  refine ⟨fun i p hp => ?_, xs, hh, by rw [enumD_len, t.length]; exact Nat.le_refl _⟩
  obtain ⟨d, hd, rfl⟩ := enumD_get hp
  obtain ⟨v, hv, rv⟩ := DvAll.get' t hd
  refine ⟨⟨xs, v, hh, hv⟩, fun x H2 y => ?_⟩
  obtain ⟨T, w, rfl, hT, e, y⟩ := y
  subst e
  have ew : w = v := Option.some.inj ((y xs hh).symm.trans hv)
  subst ew
  have hA : DvAll K S1.F [.int (i : Int), w] [.int (i : Int), d] := .cons (.int _) (.cons (Dv.mono l.f rv) .nil)
  exact new_tup r hA (R := fun v H' => ∃ S2, Rep K W S2 m1 H' ∧ Le S1 S2 ∧ Dv K S2.F v (.tuple [.int (i : Int), d])) (fun v H' S' d' r4 l4 e4 e => ⟨S', r4, l4, e ▸ e4⟩) T hT
def onList1 : List E → (List PyData → Prop) → Prop
  | [.dat (.list ds)], Q => Q ds
  | _, _ => False
def diEn (ta : DTA) : DTI := fun g m Q => ta g m fun es m1 => onList1 es fun ds => Q (enumD ds) m1
theorem di_enum {X : Cx} {e : Expr} {ta : DTA} {p pos tpos : Pos} {elts : List Expr} {kk : Nat} (hm : X.mg "enumerate" = none) (h : DA X [e] ta) (hg : Gl X "enumerate" := by rfl) (hs : starEach [e] X.env = [(false, eval e X.env)] := by rfl) :
    DI X (.Tuple elts kk tpos) (.Call (.Name "enumerate" p) [e] [] pos) (diEn ta) := by
  obtain ⟨_, pa, s⟩ := h.ex
  refine ⟨_, pi_enum hg hm pa hs, fun W S g m σ H Q R r0 sl hq k => ?_⟩
  refine s W S g m σ H _ _ r0 sl hq fun vs H1 S1 es m1 r1 l1 ev q1 => ?_
  match es, vs, ev, q1 with
  | [.dat (.list ds)], [v], .cons h .nil, q1 =>
    obtain ⟨a, xs, rfl, hF, hA⟩ := dv_lst h
    exact ⟨a, xs, rfl, Or.inl (Or.inl (r1.sub _ _ hF)), k _ H1 S1 _ m1 r1 l1 (yld_enum (Or.inl (Or.inl hF)) hA) q1⟩

/-! ### d.get(k, x), of data or of the ledger -/
def isDicE (m : Mm) : E → Prop
  | .dat (.dict _) => True
  | .loc j => ∃ kvs, m[j]? = some (.dic kvs)
  | _ => False
def getE (m : Mm) (a : E) (k : Key) (z : E) (Q : E → Prop) : Prop := match a with
  | .dat (.dict kvs) => match lookP kvs k with
    | some d => Q (.dat d)
    | none => Q z
  | .loc j => match m[j]? with
    | some (.dic kvs) => match lookD kvs k with
      | some e => Q e
      | none => Q z
    | _ => False
  | _ => False
theorem lookP_none {K : PySem.W.Frag} {F : Hp} : ∀ {ws : List (Key × V)} {kvs : List (PyData × PyData)} {k : Key}, DvKv K F ws kvs → lookP kvs k = none → valV ws k = none
  | [], [], _, _, _ => rfl
  | (k1, v) :: ws, _, k, .cons (d := d2) (ds := kvs) hp t, h => by
    have h' : (if k1 = k then some d2 else lookP kvs k) = none := by
      cases k1 <;> exact h
    by_cases c : k1 = k
    · rw [if_pos c] at h'
      cases h'
    · rw [if_neg c] at h'
      have := lookP_none t h'
      unfold valV at this ⊢
      rw [List.find?_cons_of_neg (by simpa using c)]
      exact this
section
variable {X : Cx} {o e f : Expr} {apos cpos : Pos} {to te tf : DTE}
def dGet2 (to te tf : DTE) : DTE := fun g m Q => to g m fun a m1 => isDicE m1 a ∧ te g m1 fun e m2 => tf g m2 fun z m3 => onD e fun y => onKey y fun ky => getE m3 a ky z fun r => Q r m3
theorem d_get2 (hu : X.A.units + 1 < cLine) (ho : DE X o to) (he : DE X e te) (hf : DE X f tf) (hm : M2 X o "get" apos e f cpos := by exact ⟨rfl, rfl, rfl, rfl⟩) : DE X (.Call (.Attribute o "get" apos) [e, f] [] cpos) (dGet2 to te tf) := by
  obtain ⟨_, p1, s1⟩ := ho.ex
  obtain ⟨u2, p2, s2⟩ := he.ex
  obtain ⟨u3, p3, s3⟩ := hf.ex
  refine ⟨_, pe_dget2 hu p1 p2 p3 hm, fun W S g m σ H Q R r0 sl hq k => ?_⟩
  refine s1 W S g m σ H _ _ r0 sl hq fun x H1 S1 a m1 r1 l1 ea q1 => ?_
  obtain ⟨qa, q1⟩ := q1
  have args : ∀ p, (∀ y z H3 S3 b zz m3, Rep X.K W S3 m3 H3 → Le S1 S3 → EvE X.K S3 y (.dat (keyD b)) → EvE X.K S3 z zz → (getE m3 a b zz fun r => Q r m3) → ∃ ov, DGet H3 p y ov ∧ R (ov.getD z) H3) → u2 σ H1 fun y H2 => u3 σ H2 fun z H3 => ∃ ov, DGet H3 p y ov ∧ R (ov.getD z) H3 := fun p kk =>
    s2 W S1 g m1 σ H1 _ _ r1 (sl.mono l1) q1 fun y H2 S2 b m2 r2 l2 eb q2 => s3 W S2 g m2 σ H2 _ _ r2 (sl.mono (l1.trans l2)) q2 fun z H3 S3 zz m3 r3 l3 ez q3 => by
      obtain ⟨y', rfl, q4⟩ := onD_of q3
      obtain ⟨ky, rfl, q5⟩ := onKey_of q4
      exact kk y z H3 S3 ky zz m3 r3 (l2.trans l3) (EvE.mono l3 eb) ez q5
  cases a with
  | scr _ => exact qa.elim
  | dat d =>
    cases d with
    | dict kvs =>
      cases ea with
      | dic hF hA =>
        refine ⟨_, rfl, Or.inl ⟨_, Or.inl (r1.sub _ _ hF)⟩, args _ fun y z H3 S3 b zz m3 r3 l3 eb ez q => ?_⟩
        cases dv_key eb
        have hH := r3.sub _ _ (l3.f _ _ hF)
        have q' : (match lookP kvs b with | some d => Q (.dat d) m3 | none => Q zz m3) := q
        have l13 := l1.trans l3
        cases hl : lookP kvs b with
        | none =>
          rw [hl] at q'
          exact ⟨none, by rw [← lookP_none hA hl]; exact DGet.k hH, k z H3 S3 zz m3 r3 l13 ez q'⟩
        | some d =>
          rw [hl] at q'
          obtain ⟨v, hv, rv⟩ := lookP_dv hA hl
          exact ⟨some v, dGet_of hH hv, k v H3 S3 (.dat d) m3 r3 l13 (Dv.mono l3.f rv) q'⟩
    | _ => exact qa.elim
  | loc j =>
    obtain ⟨kvs0, hm0⟩ := qa
    obtain ⟨p, hp, rfl⟩ := ea
    obtain ⟨ws0, hH0, _⟩ := r1.ok j p _ hp hm0
    refine ⟨p, rfl, Or.inl ⟨_, Or.inl hH0⟩, args p fun y z H3 S3 b zz m3 r3 l3 eb ez q => ?_⟩
    cases dv_key eb
    obtain ⟨p', hp', e'⟩ : EvE X.K S3 (.ref p) (.loc j) := EvE.mono l3 ⟨p, hp, rfl⟩
    cases e'
    have q' : (match m3[j]? with | some (.dic kvs) => (match lookD kvs b with | some e => Q e m3 | none => Q zz m3) | _ => False) := q
    have l13 := l1.trans l3
    split at q'
    · rename_i kvs hm
      obtain ⟨ws, hH, er⟩ := r3.ok j p _ hp' hm
      cases hl : lookD kvs b with
      | none =>
        rw [hl] at q'
        exact ⟨none, by rw [← look_none er hl]; exact DGet.k hH, k z H3 S3 zz m3 r3 l13 ez q'⟩
      | some e1 =>
        rw [hl] at q'
        obtain ⟨v, hv, rv⟩ := look_ev er hl
        exact ⟨some v, dGet_of hH hv, k v H3 S3 e1 m3 r3 l13 rv q'⟩
    · exact q'.elim
end

/-! ### list(d), a dict of the ledger -/
def keysE (m : Mm) : E → (List Key → Prop) → Prop
  | .loc j, Q => match m[j]? with
    | some (.dic kvs) => Q (kvs.map (·.1))
    | _ => False
  | _, _ => False
theorem keys_dv {K : PySem.W.Frag} {S : Sd} {F : Hp} : ∀ {ws : List (Key × V)} {kvs : List (Key × E)}, EvKv K S ws kvs → DvAll K F (ws.map fun kv => kV kv.1) ((kvs.map (·.1)).map keyD)
  | [], [], _ => .nil
  | (k1, v) :: ws, (k2, e2) :: kvs, .cons hp t => by
    have hk : k1 = k2 := hp.1
    subst hk
    refine .cons ?_ (keys_dv t)
    cases k1 with
    | inl i => exact .int i
    | inr x => exact .str x
section
variable {X : Cx} {e : Expr} {ta : DTA} {p pos : Pos}
def keys1 (m : Mm) : List E → (List Key → Prop) → Prop
  | [a], Q => keysE m a Q
  | _, _ => False
def dListD (ta : DTA) : DTE := fun g m Q => ta g m fun es m1 => keys1 m1 es fun ks => Q (.dat (.list (ks.map keyD))) m1
theorem d_listD (hc : X.calm = true) (hm : X.mg "list" = none) (ha : DA X [e] ta) (hg : Gl X "list" := by rfl) (he : starEach [e] X.env = (false, eval e X.env) :: starEach [] X.env := by rfl) (hpl : (backTo pos (starEach [] X.env)).any (·.1) = false := by rfl) :
    DE X (.Call (.Name "list" p) [e] [] pos) (dListD ta) := by
  obtain ⟨_, pa, sa⟩ := ha.ex
  refine ⟨_, pe_callTy (call_list_dK hc) hg hm boot_list pa (by decide) (by decide) he hpl, fun W S g m σ H Q R r0 sl hq k => ?_⟩
  refine sa W S g m σ H _ _ r0 sl hq fun vs H1 S1 es m1 r1 l1 er q1 => ?_
  match es, vs, er, q1 with
  | [a], [v], .cons ea .nil, q1 =>
      have q2 : keysE m1 a fun ks => Q (.dat (.list (ks.map keyD))) m1 := q1
      cases a with
      | dat _ => exact q2.elim
      | scr _ => exact q2.elim
      | loc j =>
        have q3 : (match m1[j]? with | some (.dic kvs) => Q (.dat (.list ((kvs.map (·.1)).map keyD))) m1 | _ => False) := q2
        obtain ⟨a, ha', rfl⟩ := ea
        split at q3
        · rename_i kvs hmj
          obtain ⟨ws, hH, er2⟩ := r1.ok j a _ ha' hmj
          exact ⟨a, ws, rfl, hH, new_lst r1 (keys_dv er2) fun v H' S' d r4 l4 e4 e => k v H' S' (.dat d) m1 r4 (l1.trans l4) e4 (by rw [e]; exact q3)⟩
        · exact q3.elim
end
end DL
/-! DXa: what the text says, as plain functions: results, combinators, and how they meet the readings. -/
namespace DL
open PySem PySem.Spec PyProof.Rows L2

/-! ### results -/
/-- what is raised: the class's name, the value that it carries -/
structure Exn where
  cls : Str
  arg : Option (Str × E)
inductive Rs (α : Type) where
  | ok (a : α) (m : Mm)
  | ex (x : Exn) (m : Mm)
  | no
inductive Fl where
  | nx (g : Gm)
  | rt (e : E)
  | bk (g : Gm)
  | ct (g : Gm)
abbrev XP := Exn → Mm → Prop
def Rs.post {α : Type} (r : Rs α) (Q : α → Mm → Prop) (Xp : XP) : Prop := match r with
  | .ok a m => Q a m
  | .ex x m => Xp x m
  | .no => False
section
variable {α β : Type}
def rb (x : Rs α) (f : α → Mm → Rs β) : Rs β := match x with
  | .ok a m => f a m
  | .ex x m => .ex x m
  | .no => .no
theorem rb_ok {a : α} {m : Mm} {f : α → Mm → Rs β} : rb (.ok a m) f = f a m := rfl
theorem rb_ex {y : Exn} {m : Mm} {f : α → Mm → Rs β} : rb (.ex y m) f = .ex y m := rfl
theorem rb_no {f : α → Mm → Rs β} : rb .no f = .no := rfl
/-- go on if .. -/
def xg (c : Bool) (k : Rs α) : Rs α := match c with
  | true => k
  | false => .no
theorem xg_true {k : Rs α} : xg true k = k := rfl
def xif (c : Bool) (a b : Gm → Mm → Rs α) (g : Gm) (m : Mm) : Rs α := match c with
  | true => a g m
  | false => b g m
theorem xif_true {a b : Gm → Mm → Rs α} {g : Gm} {m : Mm} : xif true a b g m = a g m := rfl
theorem xif_false {a b : Gm → Mm → Rs α} {g : Gm} {m : Mm} : xif false a b g m = b g m := rfl
theorem xif_not {c : Bool} {a b : Gm → Mm → Rs α} {g : Gm} {m : Mm} : xif (!c) a b g m = xif c b a g m := by cases c <;> rfl
/-- an option's thing -/
def xo (o : Option α) (f : α → Rs β) : Rs β := match o with
  | some a => f a
  | none => .no
theorem xo_some {a : α} {f : α → Rs β} : xo (some a) f = f a := rfl
theorem xo_none {f : α → Rs β} : xo (none : Option α) f = .no := rfl
theorem post_mono {r : Rs α} {Q Q' : α → Mm → Prop} {Xp : XP} (q : r.post Q Xp) (h : ∀ a m, Q a m → Q' a m) : r.post Q' Xp := by
  cases r with
  | ok a m => exact h a m q
  | ex x m => exact q
  | no => exact q
theorem post_rb {x : Rs α} {f : α → Mm → Rs β} {Q : β → Mm → Prop} {R : α → Mm → Prop} {Xp : XP} (q : (rb x f).post Q Xp) (h : ∀ a m, (f a m).post Q Xp → R a m) : x.post R Xp := by
  cases x with
  | ok a m => exact h a m q
  | ex x m => exact q
  | no => exact q
theorem post_xg {c : Bool} {k : Rs α} {Q : α → Mm → Prop} {Xp : XP} (q : (xg c k).post Q Xp) : c = true ∧ k.post Q Xp := by
  cases c with
  | true => exact ⟨rfl, q⟩
  | false => exact q.elim
theorem post_xo {o : Option α} {f : α → Rs β} {Q : β → Mm → Prop} {Xp : XP} (q : (xo o f).post Q Xp) : ∃ a, o = some a ∧ (f a).post Q Xp := by
  cases o with
  | some a => exact ⟨a, rfl, q⟩
  | none => exact q.elim
theorem post_ok {a : α} {m : Mm} {Q : α → Mm → Prop} {Xp : XP} (q : (Rs.ok a m).post Q Xp) : Q a m := q
end
abbrev XE := Gm → Mm → Rs E
abbrev XT := Gm → Mm → Rs Bool
abbrev XA := Gm → Mm → Rs (List E)
abbrev XS := Gm → Mm → Rs Fl
abbrev XG := E → Gm → Mm → Rs Gm
abbrev XGs := List E → Gm → Mm → Rs Gm
abbrev XI := Gm → Mm → Rs (List PyData)
abbrev XO := Gm → Mm → Rs (Option Int)
abbrev XPs := Gm → Mm → Rs (List (PyData × PyData))
section
variable (Xp : XP)
def ofE (x : XE) : DTE := fun g m Q => (x g m).post Q Xp
def ofT (x : XT) : DTT := fun g m Q => (x g m).post Q Xp
def ofA (x : XA) : DTA := fun g m Q => (x g m).post Q Xp
def ofG (x : XG) : DTG := fun e g m Q => (x e g m).post Q Xp
def ofGs (x : XGs) : DTGs := fun e g m Q => (x e g m).post Q Xp
def ofI (x : XI) : DTI := fun g m Q => (x g m).post Q Xp
def ofO (x : XO) : DTO := fun g m Q => (x g m).post Q Xp
def ofPs (x : XPs) : DTPs := fun g m Q => (x g m).post Q Xp
def flD (D : DEnds) : Fl → Mm → Prop
  | .nx g, m => D.nx g m
  | .rt e, m => D.rt e m
  | .bk g, m => D.bk g m
  | .ct g, m => D.ct g m
def ofS (x : XS) : DTS := fun D g m => (x g m).post (flD D) Xp
end
/-! ### from readings to functions -/
def IE (t t' : DTE) : Prop := ∀ g m Q, t g m Q → t' g m Q
def IT (t t' : DTT) : Prop := ∀ g m Q, t g m Q → t' g m Q
def IA (t t' : DTA) : Prop := ∀ g m Q, t g m Q → t' g m Q
def IG (t t' : DTG) : Prop := ∀ e g m Q, t e g m Q → t' e g m Q
def IGs (t t' : DTGs) : Prop := ∀ e g m Q, t e g m Q → t' e g m Q
def II (t t' : DTI) : Prop := ∀ g m Q, t g m Q → t' g m Q
def IO' (t t' : DTO) : Prop := ∀ g m Q, t g m Q → t' g m Q
def IPs (t t' : DTPs) : Prop := ∀ g m Q, t g m Q → t' g m Q
def IS (t t' : DTS) : Prop := ∀ D g m, t D g m → t' D g m
section
variable {X : Cx}
theorem tE {e : Expr} {t t' : DTE} (h : DE X e t') (i : IE t t') : DE X e t := let ⟨u, p, s⟩ := h.ex; ⟨u, p, fun W S g m σ H Q R r0 sl hq k => s W S g m σ H Q R r0 sl (i _ _ _ hq) k⟩
theorem tT {e : Expr} {t t' : DTT} (h : DT X e t') (i : IT t t') : DT X e t := let ⟨u, p, s⟩ := h.ex; ⟨u, p, fun W S g m σ H Q R r0 sl hq k => s W S g m σ H Q R r0 sl (i _ _ _ hq) k⟩
theorem tW {e : Expr} {t t' : DTT} (h : DW X e t') (i : IT t t') : DW X e t := let ⟨u, p, s⟩ := h.ex; ⟨u, p, fun W S g m σ H Q R r0 sl hq k => s W S g m σ H Q R r0 sl (i _ _ _ hq) k⟩
theorem tA {e : List Expr} {t t' : DTA} (h : DA X e t') (i : IA t t') : DA X e t := let ⟨u, p, s⟩ := h.ex; ⟨u, p, fun W S g m σ H Q R r0 sl hq k => s W S g m σ H Q R r0 sl (i _ _ _ hq) k⟩
theorem tK {e : List Keyword} {t t' : DTA} (h : DK X e t') (i : IA t t') : DK X e t := let ⟨u, p, s⟩ := h.ex; ⟨u, p, fun W S g m σ H Q R r0 sl hq k => s W S g m σ H Q R r0 sl (i _ _ _ hq) k⟩
theorem tS {e : Stmt} {t t' : DTS} (h : DS X e t') (i : IS t t') : DS X e t := let ⟨u, p, s⟩ := h.ex; ⟨u, p, fun W S g m σ H D R r0 sl hq k => s W S g m σ H D R r0 sl (i _ _ _ hq) k⟩
theorem tSs {e : List Stmt} {t t' : DTS} (h : DSs X e t') (i : IS t t') : DSs X e t := let ⟨u, p, s⟩ := h.ex; ⟨u, p, fun W S g m σ H D R r0 sl hq k => s W S g m σ H D R r0 sl (i _ _ _ hq) k⟩
theorem tG {e : Expr} {t t' : DTG} (h : DG X e t') (i : IG t t') : DG X e t := let ⟨u, p, s⟩ := h.ex; ⟨u, p, fun W S g m σ H v e Q R r0 sl ev hq k => s W S g m σ H v e Q R r0 sl ev (i _ _ _ _ hq) k⟩
theorem tGs {e : List Expr} {t t' : DTGs} (h : DGs X e t') (i : IGs t t') : DGs X e t := let ⟨u, p, s⟩ := h.ex; ⟨u, p, fun W S g m σ H v e Q R r0 sl ev hq k => s W S g m σ H v e Q R r0 sl ev (i _ _ _ _ hq) k⟩
theorem tI {tg e : Expr} {t t' : DTI} (h : DI X tg e t') (i : II t t') : DI X tg e t := let ⟨u, p, s⟩ := h.ex; ⟨u, p, fun W S g m σ H Q R r0 sl hq k => s W S g m σ H Q R r0 sl (i _ _ _ hq) k⟩
theorem tO {e : Option Expr} {t t' : DTO} (h : DO X e t') (i : IO' t t') : DO X e t := let ⟨u, p, s⟩ := h.ex; ⟨u, p, fun W S g m σ H Q R r0 sl hq k => s W S g m σ H Q R r0 sl (i _ _ _ hq) k⟩
theorem tPs {pos : Pos} {ks : List (Option Expr)} {vs : List Expr} {t t' : DTPs} (h : DPs X pos ks vs t') (i : IPs t t') : DPs X pos ks vs t := let ⟨u, p, s⟩ := h.ex; ⟨u, p, fun W S g m σ H Q R r0 sl hq k => s W S g m σ H Q R r0 sl (i _ _ _ hq) k⟩
theorem tCG {scope : Scope} {tg : Expr} {vs : List Nat} {t t' : DTG} (h : CG X scope tg vs t') (i : IG t t') : CG X scope tg vs t := let ⟨u, p, s, o⟩ := h.ex; ⟨u, p, fun W S g m σ H v e Q R r0 sl ev hq k => s W S g m σ H v e Q R r0 sl ev (i _ _ _ _ hq) k, o⟩
theorem tCT {scope : Scope} {ifs : List Expr} {t t' : DTT} (h : CT X scope ifs t') (i : IT t t') : CT X scope ifs t := let ⟨u, p, s⟩ := h.ex; ⟨u, p, fun W S g m σ H Q R r0 sl hq k => s W S g m σ H Q R r0 sl (i _ _ _ hq) k⟩
end

/-! ### looking at values -/
section
variable {α : Type} {Q : α → Mm → Prop} {Xp : XP}
def gD (e : E) (f : PyData → Rs α) : Rs α := match e with
  | .dat d => f d
  | _ => .no
theorem gD_dat {d : PyData} {f : PyData → Rs α} : gD (.dat d) f = f d := rfl
theorem gD_of {e : E} {f : PyData → Rs α} {P : PyData → Prop} (q : (gD e f).post Q Xp) (h : ∀ d, (f d).post Q Xp → P d) : onD e P := by
  cases e with
  | dat d => exact h d q
  | loc k => exact q.elim
  | scr ns => exact q.elim
def gI (e : PyData) (f : Int → Rs α) : Rs α := match e with
  | .int d => f d
  | _ => .no
theorem gI_int {d : Int} {f : Int → Rs α} : gI (.int d) f = f d := rfl
theorem gI_of {e : PyData} {f : Int → Rs α} {P : Int → Prop} (q : (gI e f).post Q Xp) (h : ∀ d, (f d).post Q Xp → P d) : onI e P := by
  cases e with
  | int d => exact h d q
  | _ => exact q.elim
def gS (e : PyData) (f : Str → Rs α) : Rs α := match e with
  | .str d => f d
  | _ => .no
theorem gS_str {d : Str} {f : Str → Rs α} : gS (.str d) f = f d := rfl
theorem gS_of {e : PyData} {f : Str → Rs α} {P : Str → Prop} (q : (gS e f).post Q Xp) (h : ∀ d, (f d).post Q Xp → P d) : onS e P := by
  cases e with
  | str d => exact h d q
  | _ => exact q.elim
def gB (e : PyData) (f : Bool → Rs α) : Rs α := match e with
  | .bool d => f d
  | _ => .no
theorem gB_bool {d : Bool} {f : Bool → Rs α} : gB (.bool d) f = f d := rfl
theorem gB_of {e : PyData} {f : Bool → Rs α} {P : Bool → Prop} (q : (gB e f).post Q Xp) (h : ∀ d, (f d).post Q Xp → P d) : onB e P := by
  cases e with
  | bool d => exact h d q
  | _ => exact q.elim
/-- all are data -/
def datsX : List E → Option (List PyData)
  | [] => some []
  | .dat d :: r => match datsX r with
    | some ds => some (d :: ds)
    | none => none
  | _ :: _ => none
theorem datsX_map : ∀ ds : List PyData, datsX (ds.map .dat) = some ds
  | [] => rfl
  | d :: ds => by
    show (match datsX (ds.map .dat) with | some ds => some (d :: ds) | none => none) = _
    rw [datsX_map ds]
theorem datsX_nil : datsX [] = some [] := rfl
theorem datsX_cons {d : PyData} {r : List E} : datsX (.dat d :: r) = (datsX r).map (d :: ·) := by
  show (match datsX r with | some ds => some (d :: ds) | none => none) = _
  cases datsX r <;> rfl
theorem datsX_some : ∀ {es : List E} {ds : List PyData}, datsX es = some ds → es = ds.map .dat
  | [], _, h => by
    cases h
    rfl
  | .dat d :: r, ds, h => by
    rw [datsX_cons] at h
    cases e : datsX r with
    | none =>
      rw [e] at h
      cases h
    | some ds' =>
      rw [e] at h
      cases h
      rw [datsX_some e]
      rfl
  | .loc _ :: _, _, h => nomatch h
  | .scr _ :: _, _, h => nomatch h
theorem allD_map' {P : List PyData → Prop} : ∀ (ds : List PyData) {P : List PyData → Prop}, P ds → allD (ds.map .dat) P
  | [], _, h => h
  | d :: ds, P, h => allD_map' (P := fun r => P (d :: r)) ds h
theorem allD_datsX {es : List E} {ds : List PyData} {P : List PyData → Prop} (h : datsX es = some ds) (q : P ds) : allD es P := by
  rw [datsX_some h]
  exact allD_map' (P := P) ds q
/-- a thing as a datum: also a list of the ledger -/
def asX (m : Mm) : E → Option PyData
  | .dat d => some d
  | .loc k => match m[k]? with
    | some (.lst es) => (datsX es).map PyData.list
    | _ => none
  | .scr _ => none
theorem asX_dat {m : Mm} {d : PyData} : asX m (.dat d) = some d := rfl
theorem asX_loc {m : Mm} {k : Nat} {ds : List PyData} (h : m[k]? = some (.lst (ds.map .dat))) : asX m (.loc k) = some (.list ds) := by
  show (match m[k]? with | some (.lst es) => (datsX es).map PyData.list | _ => none) = _
  rw [h]
  show (datsX (ds.map .dat)).map PyData.list = _
  rw [datsX_map]
  rfl
theorem asX_of {m : Mm} {e : E} {d : PyData} {P : PyData → Prop} (h : asX m e = some d) (q : P d) : asD m e P := by
  cases e with
  | dat d' =>
    cases h
    exact q
  | scr _ => cases h
  | loc k =>
    have h' : (match m[k]? with | some (.lst es) => (datsX es).map PyData.list | _ => none) = some d := h
    show (match m[k]? with | some (.lst es) => allD es fun ds => P (.list ds) | _ => False)
    split at h'
    · rename_i es hm
      cases e : datsX es with
      | none =>
        rw [e] at h'
        cases h'
      | some ds =>
        rw [e] at h'
        cases h'
        exact allD_datsX e q
    · cases h'
def asXs (m : Mm) : List E → Option (List PyData)
  | [] => some []
  | e :: r => match asX m e, asXs m r with
    | some d, some ds => some (d :: ds)
    | _, _ => none
theorem asXs_of {m : Mm} : ∀ {es : List E} {ds : List PyData} {P : List PyData → Prop}, asXs m es = some ds → P ds → asDs m es P
  | [], _, _, h, q => by
    cases h
    exact q
  | e :: r, ds, P, h, q => by
    have h' : (match asX m e, asXs m r with | some d, some ds => some (d :: ds) | _, _ => none) = some ds := h
    split at h'
    · rename_i d ds' h1 h2
      cases h'
      exact asX_of h1 (asXs_of (P := fun ds => P (d :: ds)) h2 q)
    · cases h'
theorem asXs_nil {m : Mm} : asXs m [] = some [] := rfl
theorem asXs_cons {m : Mm} {e : E} {r : List E} {d : PyData} {ds : List PyData} (h : asX m e = some d) (h' : asXs m r = some ds) : asXs m (e :: r) = some (d :: ds) := by
  unfold asXs
  rw [h, h']
theorem asXs_one {m : Mm} {e : E} : asXs m [e] = (asX m e).map fun d => [d] := by
  unfold asXs asXs
  cases asX m e <;> rfl
theorem asXs_two {m : Mm} {e e' : E} : asXs m [e, e'] = (asX m e).bind fun d => (asX m e').map fun d' => [d, d'] := by
  unfold asXs
  rw [asXs_one]
  cases asX m e <;> cases asX m e' <;> rfl
end

/-! ### operators -/
abbrev Y2 := PyData → PyData → Option PyData
def Y2Ok (y : Y2) (f : F2) : Prop := ∀ a b d (Q : PyData → Prop), y a b = some d → Q d → f a b Q
section
variable {Xp : XP} {x x1 x2 x3 : XE} {t1 t2 : XT}
def xVar (i : Nat) (g : Gm) (m : Mm) : Rs E := match g[i]? with
  | some (some e) => .ok e m
  | _ => .no
theorem xVar_of {i : Nat} {g : Gm} {m : Mm} {e : E} (h : g[i]? = some (some e)) : xVar i g m = .ok e m := by
  unfold xVar
  rw [h]
theorem i_Var {i : Nat} : IE (ofE Xp (xVar i)) (dVar i) := fun g m Q q => by
  unfold ofE xVar at q
  unfold dVar
  split at q
  · rename_i e he
    first | exact q | (rw [he]; exact q)
  · exact q.elim
def xC (d : PyData) (_ : Gm) (m : Mm) : Rs E := .ok (.dat d) m
theorem i_C {d : PyData} : IE (ofE Xp (xC d)) (dC d) := fun g m Q q => q
def pOp (y : Y2) (a b : E) (m : Mm) : Rs E := xo (asX m a) fun u => xo (asX m b) fun v => xo (y u v) fun d => .ok (.dat d) m
def kP2 (p : E → E → Mm → Rs E) (x : XE) (g : Gm) (a : E) (m : Mm) : Rs E := rb (x g m) (p a)
def kP3 (p : E → E → E → Mm → Rs E) (z : XE) (g : Gm) (a b : E) (m : Mm) : Rs E := rb (z g m) (p a b)
def kP3' (p : E → E → E → Mm → Rs E) (y z : XE) (g : Gm) (a : E) (m : Mm) : Rs E := rb (y g m) (kP3 p z g a)
def xOp (y : Y2) (xa xb : XE) (g : Gm) (m : Mm) : Rs E := rb (xa g m) (kP2 (pOp y) xb g)
theorem i_Op {y : Y2} {f : F2} (h : Y2Ok y f) : IE (ofE Xp (xOp y x1 x2)) (dOp f (ofE Xp x1) (ofE Xp x2)) := fun g m Q q =>
  post_rb q fun a m1 q => post_rb q fun b m2 q => let ⟨u, hu, q⟩ := post_xo q; let ⟨v, hv, q⟩ := post_xo q; let ⟨d, hd, q⟩ := post_xo q; asX_of hu (asX_of hv (h u v d _ hd q))
def pB (e : E) (m : Mm) : Rs Bool := gD e fun d => gB d fun b => .ok b m
def xB (x : XE) (g : Gm) (m : Mm) : Rs Bool := rb (x g m) pB
theorem i_B : IT (ofT Xp (xB x)) (dB (ofE Xp x)) := fun g m Q q => post_rb q fun a m1 q => gD_of q fun d q => gB_of q fun b q => q
def xTf (b : Bool) (_ : Gm) (m : Mm) : Rs Bool := .ok b m
def kAnd (u : XT) (g : Gm) (c : Bool) (m : Mm) : Rs Bool := xif c u (xTf false) g m
def xAnd (t u : XT) (g : Gm) (m : Mm) : Rs Bool := rb (t g m) (kAnd u g)
theorem i_And : IT (ofT Xp (xAnd t1 t2)) (dAnd (ofT Xp t1) (ofT Xp t2)) := fun g m Q q => post_rb q fun c m1 q => by
  cases c with
  | true => exact q
  | false => exact q
def kOr (u : XT) (g : Gm) (c : Bool) (m : Mm) : Rs Bool := xif c (xTf true) u g m
def xOr (t u : XT) (g : Gm) (m : Mm) : Rs Bool := rb (t g m) (kOr u g)
theorem i_Or : IT (ofT Xp (xOr t1 t2)) (dOr (ofT Xp t1) (ofT Xp t2)) := fun g m Q q => post_rb q fun c m1 q => by
  cases c with
  | true => exact q
  | false => exact q
def kNot (c : Bool) (m : Mm) : Rs Bool := .ok (!c) m
def xNot (t : XT) (g : Gm) (m : Mm) : Rs Bool := rb (t g m) kNot
theorem i_Not : IT (ofT Xp (xNot t1)) (dNot (ofT Xp t1)) := fun g m Q q => post_rb q fun c m1 q => q
def xYes (_ : Gm) (m : Mm) : Rs Bool := .ok true m
theorem i_Yes : IT (ofT Xp xYes) (fun _ m Q => Q true m) := fun g m Q q => q
def boolX : E → Option Bool
  | .dat (.bool b) => some b
  | _ => none
theorem boolX_of {e : E} {b : Bool} {P : Bool → Prop} (h : boolX e = some b) (q : P b) : onD e fun d => onB d P := by
  unfold boolX at h
  split at h
  · cases h
    exact q
  · cases h
def kAndV1 (xb : XE) (g : Gm) (m : Mm) (c : Bool) : Rs E := xif c xb (xC (.bool false)) g m
def kAndV (xb : XE) (g : Gm) (a : E) (m : Mm) : Rs E := xo (boolX a) (kAndV1 xb g m)
def xAndV (xa xb : XE) (g : Gm) (m : Mm) : Rs E := rb (xa g m) (kAndV xb g)
theorem i_AndV : IE (ofE Xp (xAndV x1 x2)) (dAndV (ofE Xp x1) (ofE Xp x2)) := fun g m Q q => post_rb q fun a m1 q => let ⟨c, hc, q⟩ := post_xo q; boolX_of hc (by
  cases c with
  | true => exact q
  | false => exact q)
def kOrV1 (xb : XE) (g : Gm) (m : Mm) (c : Bool) : Rs E := xif c (xC (.bool true)) xb g m
def kOrV (xb : XE) (g : Gm) (a : E) (m : Mm) : Rs E := xo (boolX a) (kOrV1 xb g m)
def xOrV (xa xb : XE) (g : Gm) (m : Mm) : Rs E := rb (xa g m) (kOrV xb g)
theorem i_OrV : IE (ofE Xp (xOrV x1 x2)) (dOrV (ofE Xp x1) (ofE Xp x2)) := fun g m Q q => post_rb q fun a m1 q => let ⟨c, hc, q⟩ := post_xo q; boolX_of hc (by
  cases c with
  | true => exact q
  | false => exact q)
def pNotV (a : E) (m : Mm) : Rs E := gD a fun d => gB d fun c => .ok (.dat (.bool (!c))) m
def xNotV (xa : XE) (g : Gm) (m : Mm) : Rs E := rb (xa g m) pNotV
theorem i_NotV : IE (ofE Xp (xNotV x1)) (dNotV (ofE Xp x1)) := fun g m Q q => post_rb q fun a m1 q => gD_of q fun d q => gB_of q fun c q => q
def kIf (xa xb : XE) (g : Gm) (c : Bool) (m : Mm) : Rs E := xif c xa xb g m
def xIf (t : XT) (xa xb : XE) (g : Gm) (m : Mm) : Rs E := rb (t g m) (kIf xa xb g)
theorem i_If : IE (ofE Xp (xIf t1 x1 x2)) (dIf (ofT Xp t1) (ofE Xp x1) (ofE Xp x2)) := fun g m Q q => post_rb q fun c m1 q => by
  cases c with
  | true => exact q
  | false => exact q
def pNeg (a : E) (m : Mm) : Rs E := gD a fun d => gI d fun i => .ok (.dat (.int (-i))) m
def xNeg (xa : XE) (g : Gm) (m : Mm) : Rs E := rb (xa g m) pNeg
theorem i_Neg : IE (ofE Xp (xNeg x1)) (dNeg (ofE Xp x1)) := fun g m Q q => post_rb q fun a m1 q => gD_of q fun d q => gI_of q fun c q => q
def op2X (y : Y2) (m : Mm) (a b : E) : Option PyData := (asX m a).bind fun u => (asX m b).bind fun v => y u v
def bool1X : PyData → Option Bool
  | .bool b => some b
  | _ => none
def kCh3 (y' : Y2) (xc : XE) (b : E) (g : Gm) (m : Mm) : Rs E := rb (xc g m) (pOp y' b)
def kCh2 (y' : Y2) (xc : XE) (g : Gm) (b : E) (m : Mm) (k : Bool) : Rs E := xif k (kCh3 y' xc b) (xC (.bool false)) g m
def kCh1 (y y' : Y2) (xc : XE) (g : Gm) (a b : E) (m : Mm) : Rs E := xo ((op2X y m a b).bind bool1X) (kCh2 y' xc g b m)
def kCh0 (y y' : Y2) (xb xc : XE) (g : Gm) (a : E) (m : Mm) : Rs E := rb (xb g m) (kCh1 y y' xc g a)
def xChain (y y' : Y2) (xa xb xc : XE) (g : Gm) (m : Mm) : Rs E := rb (xa g m) (kCh0 y y' xb xc g)
theorem i_Chain {y y' : Y2} {f f' : F2} (h : Y2Ok y f) (h' : Y2Ok y' f') : IE (ofE Xp (xChain y y' x1 x2 x3)) (dChain f f' (ofE Xp x1) (ofE Xp x2) (ofE Xp x3)) := fun g m Q q =>
  post_rb q fun a m1 q => post_rb q fun b m2 q => by
    obtain ⟨k, hk, q⟩ := post_xo q
    cases e : op2X y m2 a b with
    | none => rw [e] at hk; cases hk
    | some d =>
      rw [e] at hk
      have hk' : bool1X d = some k := hk
      unfold bool1X at hk'
      split at hk'
      · cases hk'
        unfold op2X at e
        cases hu : asX m2 a with
        | none => rw [hu] at e; cases e
        | some u =>
          rw [hu] at e
          cases hv : asX m2 b with
          | none => rw [hv] at e; cases e
          | some v =>
            rw [hv] at e
            refine asX_of hu (asX_of hv (h u v _ _ e ?_))
            cases k with
            | false => exact q
            | true => exact post_rb (x := x3 g m2) q fun c m3 q => let ⟨v', hv', q⟩ := post_xo q; let ⟨w, hw, q⟩ := post_xo q; let ⟨d, hd, q⟩ := post_xo q; asX_of hv' (asX_of hw (h' v' w d _ hd q))
      · cases hk'

/-! ### arguments, tuples, lists -/
variable {xa : XA}
def xNil (_ : Gm) (m : Mm) : Rs (List E) := .ok [] m
theorem i_Nil : IA (ofA Xp xNil) dNil := fun g m Q q => q
def pCons (a : E) (es : List E) (m : Mm) : Rs (List E) := .ok (a :: es) m
def kCons (r : XA) (g : Gm) (a : E) (m : Mm) : Rs (List E) := rb (r g m) (pCons a)
def xCons (x : XE) (r : XA) (g : Gm) (m : Mm) : Rs (List E) := rb (x g m) (kCons r g)
theorem i_Cons : IA (ofA Xp (xCons x xa)) (dCons (ofE Xp x) (ofA Xp xa)) := fun g m Q q => post_rb q fun a m1 q => post_rb q fun b m2 q => q
def pTup (es : List E) (m : Mm) : Rs E := xo (datsX es) fun ds => xg (decide (ds.length ≤ sizeLine)) (.ok (.dat (.tuple ds)) m)
def xTup (r : XA) (g : Gm) (m : Mm) : Rs E := rb (r g m) pTup
theorem i_Tup : IE (ofE Xp (xTup xa)) (dTup (ofA Xp xa)) := fun g m Q q => post_rb q fun a m1 q => let ⟨ds, h, q⟩ := post_xo q; let ⟨h2, q⟩ := post_xg q; allD_datsX h ⟨of_decide_eq_true h2, q⟩
def pLst (es : List E) (m : Mm) : Rs E := xo (datsX es) fun ds => xg (decide (ds.length ≤ sizeLine)) (.ok (.dat (.list ds)) m)
def xLst (r : XA) (g : Gm) (m : Mm) : Rs E := rb (r g m) pLst
theorem i_Lst : IE (ofE Xp (xLst xa)) (dLst (ofA Xp xa)) := fun g m Q q => post_rb q fun a m1 q => let ⟨ds, h, q⟩ := post_xo q; let ⟨h2, q⟩ := post_xg q; allD_datsX h ⟨of_decide_eq_true h2, q⟩
def pLstM (es : List E) (m : Mm) : Rs E := xg (decide (es.length ≤ sizeLine)) (.ok (.loc m.length) (m ++ [.lst es]))
def xLstM (r : XA) (g : Gm) (m : Mm) : Rs E := rb (r g m) pLstM
theorem i_LstM : IE (ofE Xp (xLstM xa)) (dLstM (ofA Xp xa)) := fun g m Q q => post_rb q fun a m1 q => let ⟨h2, q⟩ := post_xg q; ⟨of_decide_eq_true h2, q⟩

/-! ### statements -/
variable {s s1 s2 : XS} {G : XG} {Gs : XGs}
def sb (r : Rs Fl) (k : XS) : Rs Fl := match r with
  | .ok (.nx g) m => k g m
  | r => r
theorem sb_nx {g : Gm} {m : Mm} {k : XS} : sb (.ok (.nx g) m) k = k g m := rfl
theorem sb_rt {e : E} {m : Mm} {k : XS} : sb (.ok (.rt e) m) k = .ok (.rt e) m := rfl
theorem sb_bk {g : Gm} {m : Mm} {k : XS} : sb (.ok (.bk g) m) k = .ok (.bk g) m := rfl
theorem sb_ct {g : Gm} {m : Mm} {k : XS} : sb (.ok (.ct g) m) k = .ok (.ct g) m := rfl
theorem sb_ex {y : Exn} {m : Mm} {k : XS} : sb (.ex y m) k = .ex y m := rfl
def xNext (g : Gm) (m : Mm) : Rs Fl := .ok (.nx g) m
theorem i_Next : IS (ofS Xp xNext) dNext := fun D g m q => q
def xSeq (a b : XS) (g : Gm) (m : Mm) : Rs Fl := sb (a g m) b
theorem i_Seq : IS (ofS Xp (xSeq s1 s2)) (dSeq (ofS Xp s1) (ofS Xp s2)) := fun D g m q => by
  have q' : (sb (s1 g m) s2).post (flD D) Xp := q
  show (s1 g m).post (flD { D with nx := ofS Xp s2 D }) Xp
  cases e : s1 g m with
  | ex y m' => rw [e] at q'; exact q'
  | no => rw [e] at q'; exact q'
  | ok f m' =>
    rw [e] at q'
    cases f with
    | nx g' => exact q'
    | rt _ => exact q'
    | bk _ => exact q'
    | ct _ => exact q'
def xBreak (g : Gm) (m : Mm) : Rs Fl := .ok (.bk g) m
theorem i_Break : IS (ofS Xp xBreak) dBreak := fun D g m q => q
def xCont (g : Gm) (m : Mm) : Rs Fl := .ok (.ct g) m
theorem i_Cont : IS (ofS Xp xCont) dCont := fun D g m q => q
def kDrop (g : Gm) (_ : E) (m : Mm) : Rs Fl := .ok (.nx g) m
def xDrop (x : XE) (g : Gm) (m : Mm) : Rs Fl := rb (x g m) (kDrop g)
theorem i_Drop : IS (ofS Xp (xDrop x)) (dDrop (ofE Xp x)) := fun D g m q => post_rb q fun a m1 q => q
def kRet (e : E) (m : Mm) : Rs Fl := .ok (.rt e) m
def xRet (x : XE) (g : Gm) (m : Mm) : Rs Fl := rb (x g m) kRet
theorem i_Ret : IS (ofS Xp (xRet x)) (dRet (ofE Xp x)) := fun D g m q => post_rb q fun a m1 q => q
def xRetN (_ : Gm) (m : Mm) : Rs Fl := .ok (.rt (.dat .none)) m
theorem i_RetN : IS (ofS Xp xRetN) dRetN := fun D g m q => q
def kIfS (a b : XS) (g : Gm) (c : Bool) (m : Mm) : Rs Fl := xif c a b g m
def xIfS (c : XT) (a b : XS) (g : Gm) (m : Mm) : Rs Fl := rb (c g m) (kIfS a b g)
theorem i_IfS : IS (ofS Xp (xIfS t1 s1 s2)) (dIfS (ofT Xp t1) (ofS Xp s1) (ofS Xp s2)) := fun D g m q => post_rb q fun c m1 q => by
  cases c with
  | true => exact q
  | false => exact q
def xgName (i : Nat) (e : E) (g : Gm) (m : Mm) : Rs Gm := .ok (g.set i (some e)) m
theorem ig_Name {i : Nat} : IG (ofG Xp (xgName i)) (dgName i) := fun e g m Q q => q
def xgNil (es : List E) (g : Gm) (m : Mm) : Rs Gm := match es with
  | [] => .ok g m
  | _ => .no
theorem ig_Nil : IGs (ofGs Xp xgNil) dgNil := fun es g m Q q => by
  cases es with
  | nil => exact ⟨rfl, q⟩
  | cons _ _ => exact q.elim
def xgCons (t : XG) (u : XGs) (es : List E) (g : Gm) (m : Mm) : Rs Gm := match es with
  | e :: r => rb (t e g m) (u r)
  | [] => .no
theorem ig_Cons : IGs (ofGs Xp (xgCons G Gs)) (dgCons (ofG Xp G) (ofGs Xp Gs)) := fun es g m Q q => by
  cases es with
  | nil => exact q.elim
  | cons e r => exact post_rb (x := G e g m) q fun a m1 q => q
def tupX : E → Option (List PyData)
  | .dat (.tuple ds) => some ds
  | _ => none
theorem tupX_of {e : E} {ds : List PyData} {P : List PyData → Prop} (h : tupX e = some ds) (q : P ds) : onTup e P := by
  unfold tupX at h
  split at h
  · cases h
    exact q
  · cases h
def kgTup (n : Nat) (t : XGs) (g : Gm) (m : Mm) (ds : List PyData) : Rs Gm := xg (decide (ds.length = n)) (t (ds.map .dat) g m)
def xgTup (n : Nat) (t : XGs) (e : E) (g : Gm) (m : Mm) : Rs Gm := xo (tupX e) (kgTup n t g m)
theorem ig_Tup {n : Nat} : IG (ofG Xp (xgTup n Gs)) (dgTup n (ofGs Xp Gs)) := fun e g m Q q => let ⟨ds, h, q⟩ := post_xo q; let ⟨h2, q⟩ := post_xg q; tupX_of h ⟨of_decide_eq_true h2, q⟩
def kNx (g : Gm) (m : Mm) : Rs Fl := .ok (.nx g) m
def kAsg (G : XG) (g : Gm) (e : E) (m : Mm) : Rs Fl := rb (G e g m) kNx
def xAsg (x : XE) (G : XG) (g : Gm) (m : Mm) : Rs Fl := rb (x g m) (kAsg G g)
theorem i_Asg : IS (ofS Xp (xAsg x G)) (dAsg (ofE Xp x) (ofG Xp G)) := fun D g m q => post_rb q fun a m1 q => post_rb q fun g' m2 q => q
def kPar (i j : Nat) (g : Gm) (es : List E) (m : Mm) : Rs Fl := match es with
  | [a, b] => .ok (.nx ((g.set i (some a)).set j (some b))) m
  | _ => .no
def xPar (i j : Nat) (r : XA) (g : Gm) (m : Mm) : Rs Fl := rb (r g m) (kPar i j g)
theorem i_Par {i j : Nat} : IS (ofS Xp (xPar i j xa)) (dPar i j (ofA Xp xa)) := fun D g m q => post_rb q fun es m1 q => by
  match es, q with
  | [a, b], q => exact q
def kPar3 (i j k : Nat) (g : Gm) (es : List E) (m : Mm) : Rs Fl := match es with
  | [a, b, c] => .ok (.nx (((g.set i (some a)).set j (some b)).set k (some c))) m
  | _ => .no
def xPar3 (i j k : Nat) (r : XA) (g : Gm) (m : Mm) : Rs Fl := rb (r g m) (kPar3 i j k g)
theorem i_Par3 {i j k : Nat} : IS (ofS Xp (xPar3 i j k xa)) (dPar3 i j k (ofA Xp xa)) := fun D g m q => post_rb q fun es m1 q => by
  match es, q with
  | [a, b, c], q => exact q
def pAug (i : Nat) (y : Y2) (g : Gm) (a b : E) (m : Mm) : Rs Fl := xo (op2X y m a b) fun d => .ok (.nx (g.set i (some (.dat d)))) m
def kAug (i : Nat) (y : Y2) (x : XE) (g : Gm) (a : E) (m : Mm) : Rs Fl := rb (x g m) (pAug i y g a)
def xAug (i : Nat) (y : Y2) (x : XE) (g : Gm) (m : Mm) : Rs Fl := rb (xVar i g m) (kAug i y x g)
theorem op2X_of {y : Y2} {f : F2} (h : Y2Ok y f) {m : Mm} {a b : E} {d : PyData} {P : PyData → Prop} (e : op2X y m a b = some d) (q : P d) : asD m a fun x => asD m b fun y => f x y P := by
  unfold op2X at e
  cases hu : asX m a with
  | none => rw [hu] at e; cases e
  | some u =>
    rw [hu] at e
    cases hv : asX m b with
    | none => rw [hv] at e; cases e
    | some v =>
      rw [hv] at e
      exact asX_of hu (asX_of hv (h u v _ _ e q))
theorem i_Aug {i : Nat} {y : Y2} {f : F2} (h : Y2Ok y f) : IS (ofS Xp (xAug i y x)) (dAug i f (ofE Xp x)) := fun D g m q => by
  have q' : (rb (xVar i g m) (kAug i y x g)).post (flD D) Xp := q
  show dVar i g m fun a _ => (x g m).post (fun b m1 => asD m1 a fun x => asD m1 b fun y => f x y fun d => D.nx (g.set i (some (.dat d))) m1) Xp
  unfold xVar at q'
  unfold dVar
  split at q'
  · rename_i e he
    have z : (x g m).post (fun b m1 => asD m1 e fun x => asD m1 b fun y => f x y fun d => D.nx (List.set g i (some (E.dat d))) m1) Xp := post_rb (x := x g m) q' fun b m1 q => let ⟨d, hd, q⟩ := post_xo q; op2X_of h hd q
    first | exact z | (rw [he]; exact z)
  · exact q'.elim
end
end DL
/-! DXb: operators, subscripts, built-ins, methods as plain functions. -/
namespace DL
open PySem PySem.Spec PyProof.Rows L2

def og {α : Type} (c : Bool) (a : α) : Option α := match c with
  | true => some a
  | false => none
theorem og_true {α : Type} {a : α} : og true a = some a := rfl
theorem og_some {α : Type} {c : Bool} {a b : α} (h : og c a = some b) : c = true ∧ a = b := by
  cases c with
  | true => exact ⟨rfl, Option.some.inj h⟩
  | false => cases h
instance (i j : Int) : Decidable (CMul i j) := by unfold CMul; infer_instance
instance (i j : Int) : Decidable (CDiv i j) := by unfold CDiv; infer_instance
instance (i j : Int) : Decidable (CPow i j) := by unfold CPow; infer_instance
section
variable {a b d : PyData} {Q : PyData → Prop}
def yAdd : Y2
  | .int i, .int j => some (.int (i + j))
  | .str x, .str y => og (decide (x.length + y.length ≤ sizeLine)) (.str (x ++ y))
  | .list xs, .list ys => og (decide (xs.length + ys.length ≤ sizeLine)) (.list (xs ++ ys))
  | .tuple xs, .tuple ys => og (decide (xs.length + ys.length ≤ sizeLine)) (.tuple (xs ++ ys))
  | _, _ => none
theorem ok_Add : Y2Ok yAdd fAdd := fun a b d Q h q => by
  unfold yAdd at h
  split at h
  · cases h; exact q
  · obtain ⟨c, e⟩ := og_some h; subst e; exact ⟨of_decide_eq_true c, q⟩
  · obtain ⟨c, e⟩ := og_some h; subst e; exact ⟨of_decide_eq_true c, q⟩
  · obtain ⟨c, e⟩ := og_some h; subst e; exact ⟨of_decide_eq_true c, q⟩
  · cases h
def yI (C : Int → Int → Bool) (f : Int → Int → PyData) : Y2
  | .int i, .int j => og (C i j) (f i j)
  | _, _ => none
theorem yI_int {C : Int → Int → Bool} {f : Int → Int → PyData} {i j : Int} : yI C f (.int i) (.int j) = og (C i j) (f i j) := rfl
theorem ok_I {C : Int → Int → Bool} {C' : Int → Int → Prop} {f : Int → Int → PyData} (h : ∀ i j, C i j = true → C' i j) : Y2Ok (yI C f) (fI C' f) := fun a b d Q e q => by
  unfold yI at e
  split at e
  · obtain ⟨c, e⟩ := og_some e; subst e; exact ⟨h _ _ c, q⟩
  · cases e
def ySub : Y2
  | .int i, .int j => some (.int (i - j))
  | _, _ => none
theorem ok_Sub : Y2Ok ySub fSub := fun a b d Q h q => by
  unfold ySub at h
  split at h
  · cases h; exact q
  · cases h
def yMod : Y2
  | .int i, .int j => og (decide (0 < j)) (.int (i % j))
  | _, _ => none
theorem ok_Mod : Y2Ok yMod fMod := fun a b d Q h q => by
  unfold yMod at h
  split at h
  · obtain ⟨c, e⟩ := og_some h; subst e; exact ⟨of_decide_eq_true c, q⟩
  · cases h
def yDiv : Y2
  | .int i, .int j => og (decide (CDiv i j)) (.int (i / j))
  | _, _ => none
theorem ok_Div : Y2Ok yDiv fDiv := fun a b d Q h q => by
  unfold yDiv at h
  split at h
  · obtain ⟨c, e⟩ := og_some h; subst e; exact ⟨of_decide_eq_true c, q⟩
  · cases h
def yPow : Y2
  | .int i, .int j => og (decide (CPow i j)) (.int (i ^ j.toNat))
  | _, _ => none
theorem ok_Pow : Y2Ok yPow fPow := fun a b d Q h q => by
  unfold yPow at h
  split at h
  · obtain ⟨c, e⟩ := og_some h; subst e; exact ⟨of_decide_eq_true c, q⟩
  · cases h
def yMul : Y2
  | .int i, .int j => og (decide (CMul i j)) (.int (i * j))
  | .str x, .int n => og (decide (0 ≤ n ∧ n ≤ 1000000) && decide (x.length * n.toNat ≤ sizeLine)) (.str (repS x n))
  | .list xs, .int n => og (decide (-(2 ^ 63) ≤ n ∧ n < 2 ^ 63) && decide (xs.length * n.toNat ≤ sizeLine)) (.list (List.replicate n.toNat xs).flatten)
  | _, _ => none
theorem ok_Mul : Y2Ok yMul fMul := fun a b d Q h q => by
  unfold yMul at h
  split at h
  · obtain ⟨c, e⟩ := og_some h; subst e; exact ⟨of_decide_eq_true c, q⟩
  · obtain ⟨c, e⟩ := og_some h; subst e; rw [Bool.and_eq_true] at c; exact ⟨of_decide_eq_true c.1, of_decide_eq_true c.2, q⟩
  · obtain ⟨c, e⟩ := og_some h; subst e; rw [Bool.and_eq_true] at c; exact ⟨of_decide_eq_true c.1, of_decide_eq_true c.2, q⟩
  · cases h
def yLt : Y2
  | .int i, .int j => some (.bool (decide (i < j)))
  | .str x, .str y => some (.bool (strLt x y))
  | _, _ => none
theorem ok_Lt : Y2Ok yLt fLt := fun a b d Q h q => by
  unfold yLt at h
  split at h <;> cases h <;> exact q
def yLe : Y2
  | .int i, .int j => some (.bool (decide (i ≤ j)))
  | .str x, .str y => some (.bool (!strLt y x))
  | _, _ => none
theorem ok_Le : Y2Ok yLe fLe := fun a b d Q h q => by
  unfold yLe at h
  split at h <;> cases h <;> exact q
def yGt : Y2
  | .int i, .int j => some (.bool (decide (j < i)))
  | .str x, .str y => some (.bool (strLt y x))
  | _, _ => none
theorem ok_Gt : Y2Ok yGt fGt := fun a b d Q h q => by
  unfold yGt at h
  split at h <;> cases h <;> exact q
def yGe : Y2
  | .int i, .int j => some (.bool (decide (j ≤ i)))
  | .str x, .str y => some (.bool (!strLt x y))
  | _, _ => none
theorem ok_Ge : Y2Ok yGe fGe := fun a b d Q h q => by
  unfold yGe at h
  split at h <;> cases h <;> exact q
def ng (neg b : Bool) : Bool := if neg then !b else b
theorem ng_true {b : Bool} : ng true b = !b := rfl
theorem ng_false {b : Bool} : ng false b = b := rfl
def yEqN (neg : Bool) : Y2
  | .int i, .int j => some (.bool (ng neg (decide (i = j))))
  | .str x, .str y => some (.bool (ng neg (decide (x = y))))
  | .bool x, .bool y => some (.bool (ng neg (decide (x = y))))
  | a, b => og (SeqAt.shaped a && SeqAt.shaped b) (.bool (ng neg (PyData.eqv a b)))
theorem ok_EqN (neg : Bool) : Y2Ok (yEqN neg) (fEqN neg) := fun a b d Q h q => by
  unfold yEqN at h
  unfold fEqN
  split at h
  · cases h; exact q
  · cases h; exact q
  · cases h; exact q
  · obtain ⟨c, e⟩ := og_some h
    subst e
    rw [Bool.and_eq_true] at c
    first | exact ⟨c.1, c.2, q⟩ | (split <;> first | exact ⟨c.1, c.2, q⟩ | (exfalso; simp_all))
theorem yEqN_int {neg : Bool} {i j : Int} : yEqN neg (.int i) (.int j) = some (.bool (ng neg (decide (i = j)))) := rfl
theorem yEqN_str {neg : Bool} {i j : Str} : yEqN neg (.str i) (.str j) = some (.bool (ng neg (decide (i = j)))) := rfl
theorem yEqN_bool {neg : Bool} {i j : Bool} : yEqN neg (.bool i) (.bool j) = some (.bool (ng neg (decide (i = j)))) := rfl
theorem yEqN_of {neg : Bool} {a b : PyData} (h : SeqAt.shaped a = true) (h' : SeqAt.shaped b = true) : yEqN neg a b = some (.bool (ng neg (PyData.eqv a b))) := by
  have og' : og (SeqAt.shaped a && SeqAt.shaped b) (PyData.bool (ng neg (PyData.eqv a b))) = some (.bool (ng neg (PyData.eqv a b))) := by rw [h, h']; rfl
  unfold yEqN
  split
  · rw [PyData.eqv]
    first | rfl | (congr 3; exact (beq_eq_decide _ _).symm) | congr 3
  · rw [PyData.eqv]
    first | rfl | (congr 3; exact (beq_eq_decide _ _).symm) | congr 3
  · rw [PyData.eqv]
    first | rfl | (congr 3; exact (beq_eq_decide _ _).symm) | congr 3
  · exact og'
def yIsN (neg : Bool) : Y2 := fun a b => match b with
  | .none => some (.bool (ng neg (isNon a)))
  | _ => none
theorem ok_IsN (neg : Bool) : Y2Ok (yIsN neg) (fIsN neg) := fun a b d Q h q => by
  unfold yIsN at h
  split at h
  · cases h; exact ⟨rfl, q⟩
  · cases h
def strIn (x z : Str) : Bool := !(Builtin.Str.occurrences z x 0 z.length 1).isEmpty
def yIn (neg : Bool) : Y2 := fun a b => match b with
  | .str z => match a with
    | .str x => some (.bool (ng neg (strIn x z)))
    | _ => none
  | .list ds => og (flatD a && ds.all flatD) (.bool (ng neg (memD a ds)))
  | .tuple ds => og (flatD a && ds.all flatD) (.bool (ng neg (memD a ds)))
  | _ => none
theorem ok_In (neg : Bool) : Y2Ok (yIn neg) (fIn neg) := fun a b d Q h q => by
  unfold yIn at h
  unfold fIn
  split at h
  · split at h
    · cases h; exact q
    · cases h
  · obtain ⟨c, e⟩ := og_some h; subst e; rw [Bool.and_eq_true] at c; exact ⟨c.1, c.2, q⟩
  · obtain ⟨c, e⟩ := og_some h; subst e; rw [Bool.and_eq_true] at c; exact ⟨c.1, c.2, q⟩
  · cases h
theorem yIn_str {neg : Bool} {x z : Str} : yIn neg (.str x) (.str z) = some (.bool (ng neg (strIn x z))) := rfl
theorem yIn_list {neg : Bool} {a : PyData} {ds : List PyData} (h : flatD a = true) (h' : ds.all flatD = true) : yIn neg a (.list ds) = some (.bool (ng neg (memD a ds))) := by
  show og (flatD a && ds.all flatD) _ = _
  rw [h, h']
  rfl
theorem yIn_tup {neg : Bool} {a : PyData} {ds : List PyData} (h : flatD a = true) (h' : ds.all flatD = true) : yIn neg a (.tuple ds) = some (.bool (ng neg (memD a ds))) := by
  show og (flatD a && ds.all flatD) _ = _
  rw [h, h']
  rfl

/-! ### subscripts -/
def keyX : PyData → Option Key
  | .int i => some (.inl i)
  | .str s => some (.inr s)
  | _ => none
theorem keyX_of {d : PyData} {k : Key} {P : Key → Prop} (h : keyX d = some k) (q : P k) : onKey d P := by
  unfold keyX at h
  split at h <;> cases h <;> exact q
theorem keyX_key (k : Key) : keyX (keyD k) = some k := by cases k <;> rfl
def intX : PyData → Option Int
  | .int i => some i
  | _ => none
theorem intX_of {d : PyData} {k : Int} {P : Int → Prop} (h : intX d = some k) (q : P k) : onI d P := by
  unfold intX at h
  split at h
  · cases h; exact q
  · cases h
def ixX (m : Mm) : E → PyData → Option E
  | .dat (.list ds), y => (intX y).bind fun i => (atI ds i).map .dat
  | .dat (.tuple ds), y => (intX y).bind fun i => (atI ds i).map .dat
  | .dat (.str z), y => (intX y).bind fun i => (og (decide (z.length ≤ sizeLine)) ()).bind fun _ => (atI z.cps.toList i).map fun c => .dat (.str ⟨#[c]⟩)
  | .dat (.dict kvs), y => (keyX y).bind fun k => (lookP kvs k).map .dat
  | .loc j, y => match m[j]? with
    | some (.lst es) => (intX y).bind fun i => atI es i
    | some (.dic kvs) => (keyX y).bind fun k => lookD kvs k
    | _ => none
  | _, _ => none
theorem obind {α β : Type} {o : Option α} {f : α → Option β} {b : β} (h : o.bind f = some b) : ∃ a, o = some a ∧ f a = some b := by
  cases o with
  | none => cases h
  | some a => exact ⟨a, rfl, h⟩
theorem omap {α β : Type} {o : Option α} {f : α → β} {b : β} (h : o.map f = some b) : ∃ a, o = some a ∧ f a = b := by
  cases o with
  | none => cases h
  | some a => exact ⟨a, rfl, Option.some.inj h⟩
theorem ixX_of {m : Mm} {a : E} {y : PyData} {e : E} {P : E → Prop} (h : ixX m a y = some e) (q : P e) : ixE m a y P := by
  unfold ixX at h
  unfold ixE
  split at h
  · obtain ⟨i, hi, h⟩ := obind h; obtain ⟨d, hd, e⟩ := omap h; subst e; exact intX_of hi ⟨d, hd, q⟩
  · obtain ⟨i, hi, h⟩ := obind h; obtain ⟨d, hd, e⟩ := omap h; subst e; exact intX_of hi ⟨d, hd, q⟩
  · obtain ⟨i, hi, h⟩ := obind h; obtain ⟨_, hz, h⟩ := obind h; obtain ⟨d, hd, e⟩ := omap h; subst e; exact intX_of hi ⟨of_decide_eq_true (og_some hz).1, d, hd, q⟩
  · obtain ⟨i, hi, h⟩ := obind h; obtain ⟨d, hd, e⟩ := omap h; subst e; exact keyX_of hi ⟨d, hd, q⟩
  · rename_i j
    show (match m[j]? with
    | some (.lst es) => onI y fun i => ∃ e, atI es i = some e ∧ P e
    | some (.dic kvs) => onKey y fun k => ∃ e, lookD kvs k = some e ∧ P e
    | _ => False)
    split at h
    · rename_i es hm
      try rw [hm]
      obtain ⟨i, hi, h⟩ := obind h
      exact intX_of hi ⟨_, h, q⟩
    · rename_i es hm
      try rw [hm]
      obtain ⟨i, hi, h⟩ := obind h
      exact keyX_of hi ⟨_, h, q⟩
    · cases h
  · cases h
theorem ixX_list {m : Mm} {ds : List PyData} {i : Int} : ixX m (.dat (.list ds)) (.int i) = (atI ds i).map .dat := rfl
theorem ixX_tup {m : Mm} {ds : List PyData} {i : Int} : ixX m (.dat (.tuple ds)) (.int i) = (atI ds i).map .dat := rfl
theorem ixX_str {m : Mm} {z : Str} {i : Int} : ixX m (.dat (.str z)) (.int i) = (og (decide (z.length ≤ sizeLine)) ()).bind fun _ => (atI z.cps.toList i).map fun c => .dat (.str ⟨#[c]⟩) := rfl
theorem ixX_dict {m : Mm} {kvs : List (PyData × PyData)} {y : PyData} : ixX m (.dat (.dict kvs)) y = (keyX y).bind fun k => (lookP kvs k).map .dat := rfl
theorem ixX_lst {m : Mm} {j : Nat} {es : List E} {i : Int} (h : m[j]? = some (.lst es)) : ixX m (.loc j) (.int i) = atI es i := by
  show (match m[j]? with | some (.lst es) => (intX (.int i)).bind fun i => atI es i | some (.dic kvs) => (keyX (.int i)).bind fun k => lookD kvs k | _ => none) = _
  rw [h]
  rfl
theorem ixX_dic {m : Mm} {j : Nat} {kvs : List (Key × E)} {y : PyData} (h : m[j]? = some (.dic kvs)) : ixX m (.loc j) y = (keyX y).bind fun k => lookD kvs k := by
  show (match m[j]? with | some (.lst es) => (intX y).bind fun i => atI es i | some (.dic kvs) => (keyX y).bind fun k => lookD kvs k | _ => none) = _
  rw [h]
end
section
variable {Xp : XP} {x x1 x2 x3 : XE} {t1 t2 : XT} {o1 o2 : XO} {xa : XA} {G : XG}
def pIx (a b : E) (m : Mm) : Rs E := gD b fun y => xo (ixX m a y) fun e => .ok e m
def xIx (xa xb : XE) (g : Gm) (m : Mm) : Rs E := rb (xa g m) (kP2 pIx xb g)
theorem i_Ix : IE (ofE Xp (xIx x1 x2)) (dIx (ofE Xp x1) (ofE Xp x2)) := fun g m Q q => post_rb q fun a m1 q => post_rb q fun b m2 q => gD_of q fun y q => let ⟨e, h, q⟩ := post_xo q; ixX_of h q
def xNoPart (_ : Gm) (m : Mm) : Rs (Option Int) := .ok none m
theorem io_NoPart : IO' (ofO Xp xNoPart) dNoPart := fun g m Q q => q
def pPart (e : E) (m : Mm) : Rs (Option Int) := gD e fun d => gI d fun i => .ok (some i) m
def xPart (x : XE) (g : Gm) (m : Mm) : Rs (Option Int) := rb (x g m) pPart
theorem io_Part : IO' (ofO Xp (xPart x)) (dPart (ofE Xp x)) := fun g m Q q => post_rb q fun a m1 q => gD_of q fun d q => gI_of q fun i q => q
def slX (m : Mm) (a : E) (lo hi : Option Int) : Option E := match a with
  | .dat (.list ds) => some (.dat (.list (cutD ds lo hi)))
  | .dat (.tuple ds) => some (.dat (.tuple (cutD ds lo hi)))
  | .dat (.str z) => og (decide (z.length ≤ sizeLine)) (.dat (.str (cutS z lo hi)))
  | .loc k => match m[k]? with
    | some (.lst es) => (datsX es).map fun ds => E.dat (.list (cutD ds lo hi))
    | _ => none
  | .scr ns => some (.dat (.list ((cutD ns lo hi).map .int)))
  | _ => none
theorem slX_of {m : Mm} {a e : E} {lo hi : Option Int} {P : E → Prop} (h : slX m a lo hi = some e) (q : P e) : slE m a lo hi P := by
  unfold slX at h
  unfold slE
  split at h
  · cases h; exact q
  · cases h; exact q
  · obtain ⟨c, e⟩ := og_some h; subst e; exact ⟨of_decide_eq_true c, q⟩
  · rename_i k
    show (match m[k]? with | some (.lst es) => allD es fun ds => P (.dat (.list (cutD ds lo hi))) | _ => False)
    split at h
    · rename_i es hm
      try rw [hm]
      obtain ⟨ds, hd, e⟩ := omap h
      subst e
      exact allD_datsX hd q
    · cases h
  · cases h; exact q
  · cases h
theorem slX_lst {m : Mm} {j : Nat} {ds : List PyData} {lo hi : Option Int} (h : m[j]? = some (.lst (ds.map .dat))) : slX m (.loc j) lo hi = some (.dat (.list (cutD ds lo hi))) := by
  show (match m[j]? with | some (.lst es) => (datsX es).map fun ds => E.dat (.list (cutD ds lo hi)) | _ => none) = _
  rw [h]
  show (datsX (ds.map .dat)).map _ = _
  rw [datsX_map]
  rfl
theorem slX_list {m : Mm} {ds : List PyData} {lo hi : Option Int} : slX m (.dat (.list ds)) lo hi = some (.dat (.list (cutD ds lo hi))) := rfl
theorem slX_tup {m : Mm} {ds : List PyData} {lo hi : Option Int} : slX m (.dat (.tuple ds)) lo hi = some (.dat (.tuple (cutD ds lo hi))) := rfl
theorem slX_str {m : Mm} {z : Str} {lo hi : Option Int} : slX m (.dat (.str z)) lo hi = og (decide (z.length ≤ sizeLine)) (.dat (.str (cutS z lo hi))) := rfl
theorem slX_scr {m : Mm} {ns : List Int} {lo hi : Option Int} : slX m (.scr ns) lo hi = some (.dat (.list ((cutD ns lo hi).map .int))) := rfl
def pSl (a : E) (l h : Option Int) (m : Mm) : Rs E := xo (slX m a l h) fun e => .ok e m
def kSl2 (hi : XO) (g : Gm) (a : E) (l : Option Int) (m : Mm) : Rs E := rb (hi g m) (pSl a l)
def kSl1 (lo hi : XO) (g : Gm) (a : E) (m : Mm) : Rs E := rb (lo g m) (kSl2 hi g a)
def xSl (xa : XE) (lo hi : XO) (g : Gm) (m : Mm) : Rs E := rb (xa g m) (kSl1 lo hi g)
theorem i_Sl : IE (ofE Xp (xSl x o1 o2)) (dSl (ofE Xp x) (ofO Xp o1) (ofO Xp o2)) := fun g m Q q => post_rb q fun a m1 q => post_rb q fun b m2 q => post_rb q fun c m3 q => let ⟨e, h, q⟩ := post_xo q; slX_of h q
/-- a list, of data or of the ledger -/
def lstX (m : Mm) (e : E) : Option (List PyData) := (asX m e).bind fun d => match d with
  | .list ds => some ds
  | _ => none
theorem lstX_of {m : Mm} {e : E} {ds : List PyData} {P : List PyData → Prop} (h : lstX m e = some ds) (q : P ds) : onList m e P := by
  obtain ⟨d, hd, h⟩ := obind h
  unfold onList
  refine asX_of hd ?_
  split at h
  · cases h; exact q
  · cases h
theorem lstX_list {m : Mm} {ds : List PyData} : lstX m (.dat (.list ds)) = some ds := rfl
theorem lstX_loc {m : Mm} {k : Nat} {ds : List PyData} (h : m[k]? = some (.lst (ds.map .dat))) : lstX m (.loc k) = some ds := by
  unfold lstX
  rw [asX_loc h]
  rfl
def pRev (a : E) (m : Mm) : Rs E := xo (lstX m a) fun ds => .ok (.dat (.list ds.reverse)) m
def xRev (x : XE) (g : Gm) (m : Mm) : Rs E := rb (x g m) pRev
theorem i_Rev : IE (ofE Xp (xRev x)) (dRev (ofE Xp x)) := fun g m Q q => post_rb q fun a m1 q => let ⟨e, h, q⟩ := post_xo q; lstX_of h q
def pRevM (a : E) (m : Mm) : Rs E := xo (lstX m a) fun ds => .ok (.loc m.length) (m ++ [.lst (ds.reverse.map .dat)])
def xRevM (x : XE) (g : Gm) (m : Mm) : Rs E := rb (x g m) pRevM
theorem i_RevM : IE (ofE Xp (xRevM x)) (dRevM (ofE Xp x)) := fun g m Q q => post_rb q fun a m1 q => let ⟨e, h, q⟩ := post_xo q; lstX_of h q
def pBut0 (a : E) (m : Mm) : Rs E := xo (lstX m a) fun ds => .ok (.dat (.list (ds.drop 1).reverse)) m
def xBut0 (x : XE) (g : Gm) (m : Mm) : Rs E := rb (x g m) pBut0
theorem i_But0 : IE (ofE Xp (xBut0 x)) (dBut0 (ofE Xp x)) := fun g m Q q => post_rb q fun a m1 q => let ⟨e, h, q⟩ := post_xo q; lstX_of h q
def pLstR (e : E) (m : Mm) : Rs E := gD e fun d => gI d fun j => xg (decide (0 ≤ j ∧ j ≤ 16777216)) (.ok (.dat (.list (rangeD 0 j.toNat))) m)
def xLstR (x : XE) (g : Gm) (m : Mm) : Rs E := rb (x g m) pLstR
theorem i_LstR : IE (ofE Xp (xLstR x)) (dLstR (ofE Xp x)) := fun g m Q q => post_rb q fun a m1 q => gD_of q fun d q => gI_of q fun j q => let ⟨c, q⟩ := post_xg q; ⟨of_decide_eq_true c, q⟩

/-! ### built-ins -/
abbrev YN := List PyData → Option PyData
def YNOk (y : YN) (f : FN) : Prop := ∀ ds d (Q : PyData → Prop), y ds = some d → Q d → f ds Q
def pCB (y : YN) (es : List E) (m : Mm) : Rs E := xo (asXs m es) fun ds => xo (y ds) fun d => .ok (.dat d) m
def xCB (y : YN) (xa : XA) (g : Gm) (m : Mm) : Rs E := rb (xa g m) (pCB y)
theorem i_CB {y : YN} {f : FN} (h : YNOk y f) : IE (ofE Xp (xCB y xa)) (dCB f (ofA Xp xa)) := fun g m Q q => post_rb q fun es m1 q => let ⟨ds, hd, q⟩ := post_xo q; let ⟨d, hy, q⟩ := post_xo q; asXs_of hd (h ds d _ hy q)
def yLen : YN
  | [.list xs] => some (.int xs.length)
  | [.tuple xs] => some (.int xs.length)
  | [.str x] => og (decide (x.length ≤ sizeLine)) (.int x.length)
  | _ => none
theorem ok_Len : YNOk yLen fLen := fun ds d Q h q => by
  unfold yLen at h
  split at h
  · cases h; exact q
  · cases h; exact q
  · obtain ⟨c, e⟩ := og_some h; subst e; exact ⟨of_decide_eq_true c, q⟩
  · cases h
def yList : YN
  | [.list xs] => some (.list xs)
  | [.tuple xs] => some (.list xs)
  | _ => none
theorem ok_List : YNOk yList fList := fun ds d Q h q => by
  unfold yList at h
  split at h <;> cases h <;> exact q
def yTuple : YN
  | [.list xs] => some (.tuple xs)
  | [.tuple xs] => some (.tuple xs)
  | _ => none
theorem ok_Tuple : YNOk yTuple fTuple := fun ds d Q h q => by
  unfold yTuple at h
  split at h <;> cases h <;> exact q
def yInt : YN
  | [.int i] => some (.int i)
  | [.bool b] => some (.int (if b then 1 else 0))
  | _ => none
theorem ok_Int : YNOk yInt fInt := fun ds d Q h q => by
  unfold yInt at h
  split at h <;> cases h <;> exact q
def boolsX : List PyData → Option (List Bool)
  | [] => some []
  | .bool b :: r => (boolsX r).map (b :: ·)
  | _ :: _ => none
theorem boolsX_of : ∀ {ds : List PyData} {bs : List Bool} {P : List Bool → Prop}, boolsX ds = some bs → P bs → bools ds P
  | [], _, _, h, q => by
    cases h
    exact q
  | .bool b :: r, bs, P, h, q => by
    obtain ⟨bs', h', e⟩ := omap (show (boolsX r).map (b :: ·) = some bs from h)
    subst e
    exact boolsX_of (P := fun bs => P (b :: bs)) h' q
  | .none :: _, _, _, h, _ => nomatch h
  | .int _ :: _, _, _, h, _ => nomatch h
  | .str _ :: _, _, _, h, _ => nomatch h
  | .list _ :: _, _, _, h, _ => nomatch h
  | .tuple _ :: _, _, _, h, _ => nomatch h
  | .dict _ :: _, _, _, h, _ => nomatch h
theorem boolsX_map : ∀ bs : List Bool, boolsX (bs.map .bool) = some bs
  | [] => rfl
  | b :: bs => by
    show (boolsX (bs.map .bool)).map _ = _
    rw [boolsX_map bs]
    rfl
theorem boolsX_mapB {α : Type} (l : List α) (f : α → Bool) : boolsX (l.map fun a => PyData.bool (f a)) = some (l.map f) := by
  have e : (l.map fun a => PyData.bool (f a)) = (l.map f).map .bool := by rw [List.map_map]; rfl
  rw [e]
  exact boolsX_map _
def yAll : YN
  | [.list xs] => (boolsX xs).map fun bs => .bool (bs.all id)
  | _ => none
theorem ok_All : YNOk yAll fAll := fun ds d Q h q => by
  unfold yAll at h
  split at h
  · obtain ⟨bs, h', e⟩ := omap h; subst e; exact boolsX_of h' q
  · cases h
def yAny : YN
  | [.list xs] => (boolsX xs).map fun bs => .bool (bs.any id)
  | _ => none
theorem ok_Any : YNOk yAny fAny := fun ds d Q h q => by
  unfold yAny at h
  split at h
  · obtain ⟨bs, h', e⟩ := omap h; subst e; exact boolsX_of h' q
  · cases h
theorem yAll_mapB {α : Type} {l : List α} {f : α → Bool} : yAll [.list (l.map fun a => PyData.bool (f a))] = some (.bool (l.all f)) := by
  show (boolsX _).map _ = _
  rw [boolsX_mapB]
  simp [List.all_map, Function.comp_def]
theorem yAny_mapB {α : Type} {l : List α} {f : α → Bool} : yAny [.list (l.map fun a => PyData.bool (f a))] = some (.bool (l.any f)) := by
  show (boolsX _).map _ = _
  rw [boolsX_mapB]
  simp [List.any_map, Function.comp_def]

/-! ### sorting -/
section
variable {α : Type}
def insB (le : α → α → Bool) (x : α) : List α → List α
  | [] => [x]
  | y :: l => match le x y with
    | true => x :: y :: l
    | false => y :: insB le x l
def sortB (le : α → α → Bool) : List α → List α
  | [] => []
  | x :: l => insB le x (sortB le l)
theorem insB_perm (le : α → α → Bool) (x : α) : ∀ l : List α, (insB le x l).Perm (x :: l)
  | [] => .refl _
  | y :: l => by
    unfold insB
    split
    · exact .refl _
    · exact ((insB_perm le x l).cons y).trans (.swap x y l)
theorem sortB_perm (le : α → α → Bool) : ∀ l : List α, (sortB le l).Perm l
  | [] => .refl _
  | x :: l => (insB_perm le x _).trans ((sortB_perm le l).cons x)
theorem insB_pw {le : α → α → Bool} (tot : ∀ a b, le a b = true ∨ le b a = true) (tr : ∀ a b c, le a b = true → le b c = true → le a c = true) (x : α) : ∀ l : List α, l.Pairwise (fun a b => le a b = true) → (insB le x l).Pairwise (fun a b => le a b = true)
  | [], _ => List.pairwise_singleton _ _
  | y :: l, h => by
    obtain ⟨h1, h2⟩ := List.pairwise_cons.mp h
    unfold insB
    split
    · rename_i c
      exact List.pairwise_cons.mpr ⟨fun z hz => by
        rcases List.mem_cons.mp hz with e | e
        · rw [e]; exact c
        · exact tr _ _ _ c (h1 z e), h⟩
    · rename_i c
      refine List.pairwise_cons.mpr ⟨fun z hz => ?_, insB_pw tot tr x l h2⟩
      rcases List.mem_cons.mp ((insB_perm le x l).mem_iff.mp hz) with e | e
      · rw [e]
        rcases tot x y with q | q
        · rw [q] at c; cases c
        · exact q
      · exact h1 z e
theorem sortB_pw {le : α → α → Bool} (tot : ∀ a b, le a b = true ∨ le b a = true) (tr : ∀ a b c, le a b = true → le b c = true → le a c = true) : ∀ l : List α, (sortB le l).Pairwise (fun a b => le a b = true)
  | [] => .nil
  | x :: l => insB_pw tot tr x _ (sortB_pw tot tr l)
theorem sortB_uniq {le : α → α → Bool} (tot : ∀ a b, le a b = true ∨ le b a = true) (tr : ∀ a b c, le a b = true → le b c = true → le a c = true) (anti : ∀ a b, le a b = true → le b a = true → a = b) {l ys : List α} (hp : ys.Perm l) (hs : ys.Pairwise (fun a b => le a b = true)) : ys = sortB le l :=
  List.Perm.eq_of_pairwise (fun a b _ _ h h' => anti a b h h') hs (sortB_pw tot tr l) (hp.trans (sortB_perm le l).symm)
end
def leI (a b : Int) : Bool := decide (a ≤ b)
def leS (a b : Str) : Bool := !strLt b a
def sortI (l : List Int) : List Int := sortB leI l
def sortS (l : List Str) : List Str := sortB leS l
theorem leI_tot (a b : Int) : leI a b = true ∨ leI b a = true := by unfold leI; rw [decide_eq_true_eq, decide_eq_true_eq]; omega
theorem leI_tr (a b c : Int) : leI a b = true → leI b c = true → leI a c = true := by unfold leI; rw [decide_eq_true_eq, decide_eq_true_eq, decide_eq_true_eq]; omega
theorem leI_anti (a b : Int) : leI a b = true → leI b a = true → a = b := by unfold leI; rw [decide_eq_true_eq, decide_eq_true_eq]; omega
theorem strLt_iff {a b : Str} : strLt a b = true ↔ a.cps.toList < b.cps.toList := decide_eq_true_iff
theorem leS_iff {a b : Str} : leS a b = true ↔ a.cps.toList ≤ b.cps.toList := by
  unfold leS
  rw [Bool.not_eq_true', ← Bool.not_eq_true, strLt_iff]
  exact List.not_lt
theorem leS_tot (a b : Str) : leS a b = true ∨ leS b a = true := by rw [leS_iff, leS_iff]; exact List.le_total _ _
theorem leS_tr (a b c : Str) : leS a b = true → leS b c = true → leS a c = true := by rw [leS_iff, leS_iff, leS_iff]; exact List.le_trans
theorem str_ext {a b : Str} (h : a.cps.toList = b.cps.toList) : a = b := by
  cases a
  cases b
  congr 1
  exact Array.toList_inj.mp h
theorem leS_anti (a b : Str) : leS a b = true → leS b a = true → a = b := by rw [leS_iff, leS_iff]; exact fun h h' => str_ext (List.le_antisymm h h')
theorem ltCps_lt : ∀ (a b : List Nat), ltCps a b = decide (a < b) := by
  intro a b
  induction a generalizing b with
  | nil => cases b <;> simp [ltCps]
  | cons x a ih =>
    cases b with
    | nil => simp [ltCps]
    | cons y b =>
      simp only [ltCps, ih, List.cons_lt_cons_iff]
      by_cases h1 : x < y <;> by_cases h2 : x = y <;> simp [h1, h2] <;> omega
theorem risingS_pw : ∀ (l : List Str) (x : Str), risingS x l = true → (x :: l).Pairwise (fun a b => leS a b = true)
  | [], x, _ => List.pairwise_singleton _ _
  | y :: l, x, h => by
    have h' : (!ltCps y.cps.toList x.cps.toList && risingS y l) = true := h
    rw [Bool.and_eq_true] at h'
    have ih := risingS_pw l y h'.2
    have hxy : leS x y = true := by
      unfold leS strLt
      rw [← ltCps_lt]
      exact h'.1
    refine List.pairwise_cons.mpr ⟨fun z hz => ?_, ih⟩
    rcases List.mem_cons.mp hz with e | e
    · rw [e]; exact hxy
    · exact leS_tr _ _ _ hxy ((List.pairwise_cons.mp ih).1 z e)
theorem sortedS_pw {l : List Str} (h : sortedS l = true) : l.Pairwise (fun a b => leS a b = true) := by
  cases l with
  | nil => exact .nil
  | cons x l => exact risingS_pw l x h
def strsX : List PyData → Option (List Str)
  | [] => some []
  | .str b :: r => (strsX r).map (b :: ·)
  | _ :: _ => none
theorem strsX_of : ∀ {ds : List PyData} {bs : List Str} {P : List Str → Prop}, strsX ds = some bs → P bs → strsD ds P
  | [], _, _, h, q => by
    cases h
    exact q
  | .str b :: r, bs, P, h, q => by
    obtain ⟨bs', h', e⟩ := omap (show (strsX r).map (b :: ·) = some bs from h)
    subst e
    exact strsX_of (P := fun bs => P (b :: bs)) h' q
  | .none :: _, _, _, h, _ => nomatch h
  | .int _ :: _, _, _, h, _ => nomatch h
  | .bool _ :: _, _, _, h, _ => nomatch h
  | .list _ :: _, _, _, h, _ => nomatch h
  | .tuple _ :: _, _, _, h, _ => nomatch h
  | .dict _ :: _, _, _, h, _ => nomatch h
theorem strsX_map : ∀ bs : List Str, strsX (bs.map .str) = some bs
  | [] => rfl
  | b :: bs => by
    show (strsX (bs.map .str)).map _ = _
    rw [strsX_map bs]
    rfl
def intsX : List PyData → Option (List Int)
  | [] => some []
  | .int b :: r => (intsX r).map (b :: ·)
  | _ :: _ => none
theorem intsX_of : ∀ {ds : List PyData} {bs : List Int} {P : List Int → Prop}, intsX ds = some bs → P bs → intsD ds P
  | [], _, _, h, q => by
    cases h
    exact q
  | .int b :: r, bs, P, h, q => by
    obtain ⟨bs', h', e⟩ := omap (show (intsX r).map (b :: ·) = some bs from h)
    subst e
    exact intsX_of (P := fun bs => P (b :: bs)) h' q
  | .none :: _, _, _, h, _ => nomatch h
  | .str _ :: _, _, _, h, _ => nomatch h
  | .bool _ :: _, _, _, h, _ => nomatch h
  | .list _ :: _, _, _, h, _ => nomatch h
  | .tuple _ :: _, _, _, h, _ => nomatch h
  | .dict _ :: _, _, _, h, _ => nomatch h
theorem intsX_map : ∀ bs : List Int, intsX (bs.map .int) = some bs
  | [] => rfl
  | b :: bs => by
    show (intsX (bs.map .int)).map _ = _
    rw [intsX_map bs]
    rfl
def ySorted : YN
  | [.list (.str x :: xs)] => (strsX (.str x :: xs)).bind fun bs => og (decide (bs.length < 64)) (.list ((sortS bs).map .str))
  | [.list xs] => (intsX xs).bind fun bs => og (decide (bs.length < 64)) (.list ((sortI bs).map .int))
  | _ => none
theorem ok_Sorted : YNOk ySorted fSorted := fun ds d Q h q => by
  unfold ySorted at h
  split at h
  · obtain ⟨bs, h', h⟩ := obind h
    obtain ⟨c, e⟩ := og_some h
    subst e
    exact strsX_of h' ⟨of_decide_eq_true c, fun ys hp hs => by rw [sortB_uniq leS_tot leS_tr leS_anti hp (sortedS_pw hs)]; exact q⟩
  · rename_i xs hne
    obtain ⟨bs, h', h⟩ := obind h
    obtain ⟨c, e⟩ := og_some h
    subst e
    have z : intsD xs fun bs => bs.length < 64 ∧ ∀ ys : List Int, ys.Perm bs → ys.Pairwise (· ≤ ·) → Q (.list (ys.map .int)) :=
      intsX_of h' ⟨of_decide_eq_true c, fun ys hp hs => by rw [sortB_uniq leI_tot leI_tr leI_anti hp (hs.imp fun h => decide_eq_true h)]; exact q⟩
    unfold fSorted
    split
    · rename_i x xs' e
      cases e
      exact (hne x xs' rfl).elim
    · rename_i e
      cases e
      exact z
    · rename_i n1 n2
      exact absurd rfl (n2 xs)
  · cases h
theorem ySorted_strs {bs : List Str} (h : bs.length < 64) : ySorted [.list (bs.map .str)] = some (.list ((sortS bs).map .str)) := by
  cases bs with
  | nil => rfl
  | cons b bs =>
    show (strsX ((b :: bs).map .str)).bind _ = _
    rw [strsX_map]
    show og _ _ = _
    rw [decide_eq_true h]
    rfl
theorem ySorted_ints {bs : List Int} (h : bs.length < 64) : ySorted [.list (bs.map .int)] = some (.list ((sortI bs).map .int)) := by
  have e : ySorted [.list (bs.map .int)] = (intsX (bs.map .int)).bind fun bs => og (decide (bs.length < 64)) (.list ((sortI bs).map .int)) := by
    cases bs <;> rfl
  rw [e, intsX_map]
  show og _ _ = _
  rw [decide_eq_true h]
  rfl
def yReprA : YN
  | [d] => og (d.showable && (!d.hasDict || noList d) && decide (d.depth ≤ 60) && decide (d.shown.length ≤ sizeLine)) (.str d.shown)
  | _ => none
theorem ok_ReprA : YNOk yReprA fReprA := fun ds d Q h q => by
  unfold yReprA at h
  split at h
  · obtain ⟨c, e⟩ := og_some h
    subst e
    rw [Bool.and_eq_true, Bool.and_eq_true, Bool.and_eq_true, Bool.or_eq_true, Bool.not_eq_true'] at c
    exact ⟨⟨c.1.1.1, c.1.1.2, of_decide_eq_true c.1.2, of_decide_eq_true c.2⟩, q⟩
  · cases h
theorem yRepr_of {d : PyData} (h : Shows d) : yReprA [d] = some (.str d.shown) := by
  show og _ _ = _
  have h2 : (!d.hasDict || noList d) = true := by
    rw [Bool.or_eq_true, Bool.not_eq_true']
    exact h.dic
  rw [h.able, h2, decide_eq_true h.deep, decide_eq_true h.long]
  rfl
def pIsi (T : String) (a : E) (m : Mm) : Rs E := xo (asX m a) fun d => .ok (.dat (.bool (instD d T))) m
def xIsi (T : String) (x : XE) (g : Gm) (m : Mm) : Rs E := rb (x g m) (pIsi T)
theorem i_Isi {T : String} : IE (ofE Xp (xIsi T x)) (dIsi T (ofE Xp x)) := fun g m Q q => post_rb q fun a m1 q => let ⟨d, h, q⟩ := post_xo q; asX_of h q

/-! ### methods -/
def locL (m : Mm) : E → Option (Nat × List E)
  | .loc k => match m[k]? with
    | some (.lst es) => some (k, es)
    | _ => none
  | _ => none
theorem locL_of {m : Mm} {e : E} {k : Nat} {es : List E} {P : Nat → List E → Prop} (h : locL m e = some (k, es)) (q : P k es) : onLst' m e P := by
  unfold locL at h
  unfold onLst'
  split at h
  · rename_i j
    show (match m[j]? with | some (.lst es) => P j es | _ => False)
    split at h
    · rename_i es' hm
      try rw [hm]
      cases h
      exact q
    · cases h
  · cases h
theorem locL_loc {m : Mm} {k : Nat} {es : List E} (h : m[k]? = some (.lst es)) : locL m (.loc k) = some (k, es) := by
  show (match m[k]? with | some (.lst es) => some (k, es) | _ => none) = _
  rw [h]
def isLX (m : Mm) (a : E) : Bool := (locL m a).isSome
theorem isLX_loc {m : Mm} {k : Nat} {es : List E} (h : m[k]? = some (.lst es)) : isLX m (.loc k) = true := by unfold isLX; rw [locL_loc h]; rfl
theorem isLX_of {m : Mm} {a : E} {P : Nat → List E → Prop} (h : isLX m a = true) (q : ∀ k es, P k es) : onLst' m a P := by
  unfold isLX at h
  cases e : locL m a with
  | none => rw [e] at h; cases h
  | some p => exact locL_of (k := p.1) (es := p.2) e (q _ _)
def pApp (a e : E) (m : Mm) : Rs E := xo (locL m a) fun p => xg (decide (p.2.length < sizeLine)) (.ok (.dat .none) (m.set p.1 (.lst (p.2 ++ [e]))))
def kApp (x : XE) (g : Gm) (a : E) (m : Mm) : Rs E := xg (isLX m a) (rb (x g m) (pApp a))
def xApp (o x : XE) (g : Gm) (m : Mm) : Rs E := rb (o g m) (kApp x g)
theorem i_App : IE (ofE Xp (xApp x1 x2)) (dApp (ofE Xp x1) (ofE Xp x2)) := fun g m Q q => post_rb q fun a m1 q => let ⟨h, q⟩ := post_xg q; isLX_of h fun _ _ => (post_rb q fun e m2 q => let ⟨_, h, q⟩ := post_xo q; let ⟨c, q⟩ := post_xg q; locL_of h ⟨of_decide_eq_true c, q⟩)
def pPop (a : E) (m : Mm) : Rs E := xo (locL m a) fun p => xo p.2[p.2.length - 1]? fun e => .ok e (m.set p.1 (.lst p.2.dropLast))
def xPop (o : XE) (g : Gm) (m : Mm) : Rs E := rb (o g m) pPop
theorem i_Pop : IE (ofE Xp (xPop x)) (dPop (ofE Xp x)) := fun g m Q q => post_rb q fun a m1 q => let ⟨_, h, q⟩ := post_xo q; let ⟨e, h2, q⟩ := post_xo q; locL_of h ⟨e, h2, q⟩
def pExt (a e : E) (m : Mm) : Rs E := xo (lstX m e) fun ds => xo (locL m a) fun p => xg (decide (p.2.length + ds.length ≤ sizeLine)) (.ok (.dat .none) (m.set p.1 (.lst (p.2 ++ ds.map .dat))))
def kExt (x : XE) (g : Gm) (a : E) (m : Mm) : Rs E := xg (isLX m a) (rb (x g m) (pExt a))
def xExt (o x : XE) (g : Gm) (m : Mm) : Rs E := rb (o g m) (kExt x g)
theorem i_Ext : IE (ofE Xp (xExt x1 x2)) (dExt (ofE Xp x1) (ofE Xp x2)) := fun g m Q q => post_rb q fun a m1 q => let ⟨h, q⟩ := post_xg q; isLX_of h fun _ _ => (post_rb q fun e m2 q => let ⟨_, h1, q⟩ := post_xo q; let ⟨_, h, q⟩ := post_xo q; let ⟨c, q⟩ := post_xg q; lstX_of h1 (locL_of h ⟨of_decide_eq_true c, q⟩))
def setX (m : Mm) (a : E) (y : PyData) (e : E) : Option Mm := match a with
  | .loc k => match m[k]? with
    | some (.lst es) => (intX y).bind fun i => (ixN es.length i).map fun j => m.set k (.lst (es.set j e))
    | some (.dic kvs) => (keyX y).bind fun ky => og (decide (kvs.length < sizeLine)) (m.set k (.dic (putE kvs ky e)))
    | _ => none
  | _ => none
theorem setX_of {m m' : Mm} {a e : E} {y : PyData} {P : Mm → Prop} (h : setX m a y e = some m') (q : P m') : setE m a y e P := by
  unfold setX at h
  unfold setE
  split at h
  · rename_i k
    show (match m[k]? with
    | some (.lst es) => onI y fun i => ∃ j, ixN es.length i = some j ∧ P (m.set k (.lst (es.set j e)))
    | some (.dic kvs) => onKey y fun ky => kvs.length < sizeLine ∧ P (m.set k (.dic (putE kvs ky e)))
    | _ => False)
    split at h
    · rename_i es hm
      try rw [hm]
      obtain ⟨i, hi, h⟩ := obind h
      obtain ⟨j, hj, h⟩ := omap h
      subst h
      exact intX_of hi ⟨j, hj, q⟩
    · rename_i kvs hm
      try rw [hm]
      obtain ⟨i, hi, h⟩ := obind h
      obtain ⟨c, h⟩ := og_some h
      subst h
      exact keyX_of hi ⟨of_decide_eq_true c, q⟩
    · cases h
  · cases h
theorem setX_lst {m : Mm} {k : Nat} {es : List E} {i : Int} {j : Nat} {e : E} (h : m[k]? = some (.lst es)) (hj : ixN es.length i = some j) : setX m (.loc k) (.int i) e = some (m.set k (.lst (es.set j e))) := by
  show (match m[k]? with
    | some (.lst es) => (intX (.int i)).bind fun i => (ixN es.length i).map fun j => m.set k (.lst (es.set j e))
    | some (.dic kvs) => (keyX (.int i)).bind fun ky => og (decide (kvs.length < sizeLine)) (m.set k (.dic (putE kvs ky e)))
    | _ => none) = _
  rw [h]
  show (ixN es.length i).map _ = _
  rw [hj]
  rfl
theorem setX_dic {m : Mm} {k : Nat} {kvs : List (Key × E)} {y : PyData} {ky : Key} {e : E} (h : m[k]? = some (.dic kvs)) (hy : keyX y = some ky) (hl : kvs.length < sizeLine) : setX m (.loc k) y e = some (m.set k (.dic (putE kvs ky e))) := by
  show (match m[k]? with
    | some (.lst es) => (intX y).bind fun i => (ixN es.length i).map fun j => m.set k (.lst (es.set j e))
    | some (.dic kvs) => (keyX y).bind fun ky => og (decide (kvs.length < sizeLine)) (m.set k (.dic (putE kvs ky e)))
    | _ => none) = _
  rw [h]
  show (keyX y).bind _ = _
  rw [hy]
  show og _ _ = _
  rw [decide_eq_true hl]
  rfl
def kgSub2 (g : Gm) (a e b : E) (m : Mm) : Rs Gm := gD b fun y => xo (setX m a y e) fun m3 => .ok g m3
def kgSub1 (i : XE) (g : Gm) (e a : E) (m : Mm) : Rs Gm := rb (i g m) (kgSub2 g a e)
def xgSub (o i : XE) (e : E) (g : Gm) (m : Mm) : Rs Gm := rb (o g m) (kgSub1 i g e)
theorem ig_Sub : IG (ofG Xp (xgSub x1 x2)) (dgSub (ofE Xp x1) (ofE Xp x2)) := fun e g m Q q => post_rb (x := x1 g m) q fun a m1 q => post_rb q fun b m2 q => gD_of q fun y q => let ⟨_, h, q⟩ := post_xo q; setX_of h q
def xNewD (_ : Gm) (m : Mm) : Rs E := .ok (.loc m.length) (m ++ [.dic []])
theorem i_NewD : IE (ofE Xp xNewD) dNewD := fun g m Q q => q
def xNewC (_ : Gm) (m : Mm) : Rs E := .ok (.dat (.dict [])) m
theorem i_NewC : IE (ofE Xp xNewC) dNewC := fun g m Q q => q
def locD (m : Mm) : E → Option (Nat × List (Key × E))
  | .loc k => match m[k]? with
    | some (.dic es) => some (k, es)
    | _ => none
  | _ => none
theorem locD_of {m : Mm} {e : E} {k : Nat} {es : List (Key × E)} {P : Nat → List (Key × E) → Prop} (h : locD m e = some (k, es)) (q : P k es) : onDic m e P := by
  unfold locD at h
  unfold onDic
  split at h
  · rename_i j
    show (match m[j]? with | some (.dic es) => P j es | _ => False)
    split at h
    · rename_i es' hm
      try rw [hm]
      cases h
      exact q
    · cases h
  · cases h
theorem locD_loc {m : Mm} {k : Nat} {es : List (Key × E)} (h : m[k]? = some (.dic es)) : locD m (.loc k) = some (k, es) := by
  show (match m[k]? with | some (.dic es) => some (k, es) | _ => none) = _
  rw [h]
/-- d.get, of data or of the ledger -/
def dicX (m : Mm) (a : E) (k : Key) : Option (Option E) := match a with
  | .dat (.dict kvs) => some ((lookP kvs k).map .dat)
  | .loc j => match m[j]? with
    | some (.dic kvs) => some (lookD kvs k)
    | _ => none
  | _ => none
def isDX (m : Mm) : E → Bool
  | .dat (.dict _) => true
  | .loc j => match m[j]? with
    | some (.dic _) => true
    | _ => false
  | _ => false
theorem isDX_of {m : Mm} {a : E} (h : isDX m a = true) : isDicE m a := by
  unfold isDX at h
  unfold isDicE
  split at h
  · trivial
  · rename_i j
    split at h
    · rename_i kvs hm
      exact ⟨kvs, hm⟩
    · cases h
  · cases h
theorem dicX_of {m : Mm} {a z : E} {k : Key} {r : Option E} {P : E → Prop} (h : dicX m a k = some r) (q : P (r.getD z)) : getE m a k z P := by
  unfold dicX at h
  unfold getE
  split at h
  · cases h
    rename_i kvs
    show (match lookP kvs k with | some d => P (.dat d) | none => P z)
    cases e : lookP kvs k with
    | none => rw [e] at q; exact q
    | some d => rw [e] at q; exact q
  · rename_i j
    show (match m[j]? with
    | some (.dic kvs) => (match lookD kvs k with | some e => P e | none => P z)
    | _ => False)
    split at h
    · rename_i kvs hm
      try rw [hm]
      cases h
      show (match lookD kvs k with | some e => P e | none => P z)
      cases e : lookD kvs k with
      | none => rw [e] at q; exact q
      | some d => rw [e] at q; exact q
    · cases h
  · cases h
theorem dicX_dict {m : Mm} {kvs : List (PyData × PyData)} {k : Key} : dicX m (.dat (.dict kvs)) k = some ((lookP kvs k).map .dat) := rfl
theorem dicX_loc {m : Mm} {j : Nat} {kvs : List (Key × E)} {k : Key} (h : m[j]? = some (.dic kvs)) : dicX m (.loc j) k = some (lookD kvs k) := by
  show (match m[j]? with | some (.dic kvs) => some (lookD kvs k) | _ => none) = _
  rw [h]
theorem isDX_loc {m : Mm} {j : Nat} {kvs : List (Key × E)} (h : m[j]? = some (.dic kvs)) : isDX m (.loc j) = true := by
  show (match m[j]? with | some (.dic _) => true | _ => false) = _
  rw [h]
def isLDX (m : Mm) (a : E) : Bool := (locD m a).isSome
theorem isLDX_loc {m : Mm} {k : Nat} {es : List (Key × E)} (h : m[k]? = some (.dic es)) : isLDX m (.loc k) = true := by unfold isLDX; rw [locD_loc h]; rfl
theorem isLDX_of {m : Mm} {a : E} {P : Nat → List (Key × E) → Prop} (h : isLDX m a = true) (q : ∀ k es, P k es) : onDic m a P := by
  unfold isLDX at h
  cases e : locD m a with
  | none => rw [e] at h; cases h
  | some p => exact locD_of (k := p.1) (es := p.2) e (q _ _)
def pGet1 (a e : E) (m : Mm) : Rs E := gD e fun y => xo (keyX y) fun ky => xo (locD m a) fun p => .ok ((lookD p.2 ky).getD (.dat .none)) m
def kGet1 (x : XE) (g : Gm) (a : E) (m : Mm) : Rs E := xg (isLDX m a) (rb (x g m) (pGet1 a))
def xGet1 (o x : XE) (g : Gm) (m : Mm) : Rs E := rb (o g m) (kGet1 x g)
theorem i_Get1 : IE (ofE Xp (xGet1 x1 x2)) (dGet1 (ofE Xp x1) (ofE Xp x2)) := fun g m Q q => post_rb q fun a m1 q => let ⟨h, q⟩ := post_xg q; isLDX_of h fun _ _ => (post_rb q fun e m2 q => gD_of q fun y q => let ⟨k, hk, q⟩ := post_xo q; let ⟨p, hp, q⟩ := post_xo q; keyX_of hk (locD_of hp (by
    cases e : lookD p.2 k with
    | none => rw [e] at q; exact q
    | some d => rw [e] at q; exact q)))
def pGet2 (a e w : E) (m : Mm) : Rs E := gD e fun y => xo (keyX y) fun ky => xo (dicX m a ky) fun r => .ok (r.getD w) m
def kGet2 (x z : XE) (g : Gm) (a : E) (m : Mm) : Rs E := xg (isDX m a) (rb (x g m) (kP3 pGet2 z g a))
def xGet2 (o x z : XE) (g : Gm) (m : Mm) : Rs E := rb (o g m) (kGet2 x z g)
theorem i_Get2 : IE (ofE Xp (xGet2 x1 x2 x3)) (dGet2 (ofE Xp x1) (ofE Xp x2) (ofE Xp x3)) := fun g m Q q => post_rb q fun a m1 q => let ⟨h, q⟩ := post_xg q; ⟨isDX_of h, post_rb q fun e m2 q => post_rb q fun w m3 q => gD_of q fun y q => let ⟨k, hk, q⟩ := post_xo q; let ⟨p, hp, q⟩ := post_xo q; keyX_of hk (dicX_of hp q)⟩
def popX (m : Mm) (k : Nat) (kvs : List (Key × E)) (ky : Key) (w : E) : Rs E := match lookD kvs ky with
  | some v => .ok v (m.set k (.dic (dropE kvs ky)))
  | none => .ok w m
theorem popX_some {m : Mm} {k : Nat} {kvs : List (Key × E)} {ky : Key} {w v : E} (h : lookD kvs ky = some v) : popX m k kvs ky w = .ok v (m.set k (.dic (dropE kvs ky))) := by unfold popX; rw [h]
theorem popX_none {m : Mm} {k : Nat} {kvs : List (Key × E)} {ky : Key} {w : E} (h : lookD kvs ky = none) : popX m k kvs ky w = .ok w m := by unfold popX; rw [h]
def pPop2 (a e w : E) (m : Mm) : Rs E := gD e fun y => xo (keyX y) fun ky => xo (locD m a) fun p => popX m p.1 p.2 ky w
def kPop2 (x z : XE) (g : Gm) (a : E) (m : Mm) : Rs E := xg (isLDX m a) (rb (x g m) (kP3 pPop2 z g a))
def xPop2 (o x z : XE) (g : Gm) (m : Mm) : Rs E := rb (o g m) (kPop2 x z g)
theorem i_Pop2 : IE (ofE Xp (xPop2 x1 x2 x3)) (dPop2 (ofE Xp x1) (ofE Xp x2) (ofE Xp x3)) := fun g m Q q => post_rb q fun a m1 q => let ⟨h, q⟩ := post_xg q; isLDX_of h fun _ _ => (post_rb q fun e m2 q => post_rb q fun w m3 q => gD_of q fun y q => let ⟨k, hk, q⟩ := post_xo q; let ⟨p, hp, q⟩ := post_xo q; keyX_of hk (@locD_of _ _ p.1 p.2 _ hp (by
    have q' : (popX m3 p.1 p.2 k w).post Q Xp := q
    unfold popX at q'
    cases e : lookD p.2 k with
    | none => rw [e] at q'; exact q'
    | some d => rw [e] at q'; exact q')))
def keysX (m : Mm) : List E → Option (List Key)
  | [.loc j] => match m[j]? with
    | some (.dic kvs) => some (kvs.map (·.1))
    | _ => none
  | _ => none
theorem keysX_of {m : Mm} {es : List E} {ks : List Key} {P : List Key → Prop} (h : keysX m es = some ks) (q : P ks) : keys1 m es P := by
  unfold keysX at h
  split at h
  · rename_i j
    show (match m[j]? with | some (.dic kvs) => P (kvs.map (·.1)) | _ => False)
    split at h
    · rename_i kvs hm
      try rw [hm]
      cases h
      exact q
    · cases h
  · cases h
theorem keysX_loc {m : Mm} {j : Nat} {kvs : List (Key × E)} (h : m[j]? = some (.dic kvs)) : keysX m [.loc j] = some (kvs.map (·.1)) := by
  show (match m[j]? with | some (.dic kvs) => some (kvs.map fun p : Key × E => p.1) | _ => none) = _
  rw [h]
def pListD (es : List E) (m : Mm) : Rs E := xo (keysX m es) fun ks => .ok (.dat (.list (ks.map keyD))) m
def xListD (xa : XA) (g : Gm) (m : Mm) : Rs E := rb (xa g m) pListD
theorem i_ListD : IE (ofE Xp (xListD xa)) (dListD (ofA Xp xa)) := fun g m Q q => post_rb q fun es m1 q => let ⟨_, h, q⟩ := post_xo q; keysX_of h q
abbrev YM0 := Str → Option PyData
abbrev YM1 := Str → PyData → Option PyData
def YM0Ok (y : YM0) (f : Str → (PyData → Prop) → Prop) : Prop := ∀ x d (Q : PyData → Prop), y x = some d → Q d → f x Q
def YM1Ok (y : YM1) (f : Str → PyData → (PyData → Prop) → Prop) : Prop := ∀ x a d (Q : PyData → Prop), y x a = some d → Q d → f x a Q
def pM0 (y : YM0) (a : E) (m : Mm) : Rs E := gD a fun d => gS d fun z => xo (y z) fun d => .ok (.dat d) m
def xM0 (y : YM0) (o : XE) (g : Gm) (m : Mm) : Rs E := rb (o g m) (pM0 y)
theorem i_M0 {y : YM0} {f : Str → (PyData → Prop) → Prop} (h : YM0Ok y f) : IE (ofE Xp (xM0 y x)) (dM0 f (ofE Xp x)) := fun g m Q q => post_rb q fun a m1 q => gD_of q fun d q => gS_of q fun z q => let ⟨d, hd, q⟩ := post_xo q; h z d _ hd q
def strX : E → Option Str
  | .dat (.str z) => some z
  | _ => none
theorem strX_of {e : E} {z : Str} {P : Str → Prop} (h : strX e = some z) (q : P z) : onD e fun d => onS d P := by
  unfold strX at h
  split at h
  · cases h
    exact q
  · cases h
def pM1 (y : YM1) (z : Str) (e : E) (m : Mm) : Rs E := xo (asX m e) fun u => xo (y z u) fun d => .ok (.dat d) m
def kM1' (y : YM1) (x : XE) (g : Gm) (m : Mm) (z : Str) : Rs E := rb (x g m) (pM1 y z)
def kM1 (y : YM1) (x : XE) (g : Gm) (a : E) (m : Mm) : Rs E := xo (strX a) (kM1' y x g m)
def xM1 (y : YM1) (o x : XE) (g : Gm) (m : Mm) : Rs E := rb (o g m) (kM1 y x g)
theorem i_M1 {y : YM1} {f : Str → PyData → (PyData → Prop) → Prop} (h : YM1Ok y f) : IE (ofE Xp (xM1 y x1 x2)) (dM1 f (ofE Xp x1) (ofE Xp x2)) := fun g m Q q => post_rb q fun a m1 q => let ⟨z, hz, q⟩ := post_xo q; strX_of hz (post_rb q fun e m2 q => let ⟨u, hu, q⟩ := post_xo q; let ⟨d, hd, q⟩ := post_xo q; asX_of hu (h z u d _ hd q))
def yUpper : YM0 := fun x => og (decide (x.length ≤ 5592405)) (.str (Txt.upper x))
theorem ok_Upper : YM0Ok yUpper fUpper := fun x d Q h q => by obtain ⟨c, e⟩ := og_some h; subst e; exact ⟨of_decide_eq_true c, q⟩
def yLower : YM0 := fun x => og (decide (x.length ≤ 5592405)) (.str (Txt.lower x))
theorem ok_Lower : YM0Ok yLower fLower := fun x d Q h q => by obtain ⟨c, e⟩ := og_some h; subst e; exact ⟨of_decide_eq_true c, q⟩
def ySplit : YM1 := fun x d => match d with
  | .str y => og ((y.length != 0) && decide (x.length + 2 ≤ sizeLine)) (.list ((Txt.split x y).map .str))
  | _ => none
theorem ok_Split : YM1Ok ySplit fSplit := fun x a d Q h q => by
  unfold ySplit at h
  split at h
  · obtain ⟨c, e⟩ := og_some h
    subst e
    rw [Bool.and_eq_true] at c
    exact ⟨by simpa using c.1, of_decide_eq_true c.2, q⟩
  · cases h
def yFind : YM1 := fun x d => match d with
  | .str y => some (.int (Txt.find x y))
  | _ => none
theorem ok_Find : YM1Ok yFind fFind := fun x a d Q h q => by
  unfold yFind at h
  split at h
  · cases h; exact q
  · cases h
def yJoin : YM1 := fun x d => match d with
  | .list ds => (strsX ds).bind fun ys => og (decide ((ys.map (·.length)).sum + ys.length * x.length ≤ 16777216)) (.str (Txt.join x ys))
  | .tuple ds => (strsX ds).bind fun ys => og (decide ((ys.map (·.length)).sum + ys.length * x.length ≤ 16777216)) (.str (Txt.join x ys))
  | _ => none
theorem ok_Join : YM1Ok yJoin fJoin := fun x a d Q h q => by
  unfold yJoin at h
  split at h
  · obtain ⟨ys, hy, h⟩ := obind h; obtain ⟨c, e⟩ := og_some h; subst e; exact strsX_of hy ⟨of_decide_eq_true c, q⟩
  · obtain ⟨ys, hy, h⟩ := obind h; obtain ⟨c, e⟩ := og_some h; subst e; exact strsX_of hy ⟨of_decide_eq_true c, q⟩
  · cases h
/-! ### displays -/
variable {p : XPs}
def xpNil (_ : Gm) (m : Mm) : Rs (List (PyData × PyData)) := .ok [] m
theorem ip_Nil : IPs (ofPs Xp xpNil) dpNil := fun g m Q q => q
def ppCons (a b : E) (ps : List (PyData × PyData)) (m : Mm) : Rs (List (PyData × PyData)) := gD a fun x => gD b fun y => .ok ((x, y) :: ps) m
def kpCons2 (r : XPs) (g : Gm) (a b : E) (m : Mm) : Rs (List (PyData × PyData)) := rb (r g m) (ppCons a b)
def kpCons1 (v : XE) (r : XPs) (g : Gm) (a : E) (m : Mm) : Rs (List (PyData × PyData)) := rb (v g m) (kpCons2 r g a)
def xpCons (k v : XE) (r : XPs) (g : Gm) (m : Mm) : Rs (List (PyData × PyData)) := rb (k g m) (kpCons1 v r g)
theorem ip_Cons : IPs (ofPs Xp (xpCons x1 x2 p)) (dpCons (ofE Xp x1) (ofE Xp x2) (ofPs Xp p)) := fun g m Q q => post_rb q fun a m1 q => post_rb q fun b m2 q => post_rb q fun ps m3 q => gD_of q fun x q => gD_of q fun y q => q
def keysP : List (PyData × PyData) → Option (List Key)
  | [] => some []
  | (k, _) :: r => (keyX k).bind fun x => (keysP r).map (x :: ·)
theorem keysP_of : ∀ {ps : List (PyData × PyData)} {ks : List Key} {P : List Key → Prop}, keysP ps = some ks → P ks → keysOf ps P
  | [], _, _, h, q => by
    cases h
    exact q
  | (k, d) :: r, ks, P, h, q => by
    obtain ⟨x, hx, h⟩ := obind (show (keyX k).bind (fun x => (keysP r).map (x :: ·)) = some ks from h)
    obtain ⟨ks', h', e⟩ := omap h
    subst e
    exact keyX_of hx (keysP_of (P := fun ks => P (x :: ks)) h' q)
def pDisp (ps : List (PyData × PyData)) (m : Mm) : Rs E := xo (keysP ps) fun ks => xg (decide ks.Nodup) (xg (decide (ps.length ≤ 15)) (.ok (.dat (.dict ps)) m))
def xDisp (t : XPs) (g : Gm) (m : Mm) : Rs E := rb (t g m) pDisp
theorem i_Disp : IE (ofE Xp (xDisp p)) (dDisp (ofPs Xp p)) := fun g m Q q => post_rb q fun ps m1 q => let ⟨ks, h, q⟩ := post_xo q; let ⟨c, q⟩ := post_xg q; let ⟨c', q⟩ := post_xg q; keysP_of h ⟨of_decide_eq_true c, of_decide_eq_true c', q⟩
/-! ### what is walked -/
def seqX : E → Option (List PyData)
  | .dat (.list ds) => some ds
  | .dat (.tuple ds) => some ds
  | _ => none
theorem seqX_of {e : E} {ds : List PyData} {P : List PyData → Prop} (h : seqX e = some ds) (q : P ds) : onSeq e P := by
  unfold seqX at h
  split at h <;> cases h <;> exact q
def piA (e : E) (m : Mm) : Rs (List PyData) := xo (seqX e) fun ds => .ok ds m
def xiA (x : XE) (g : Gm) (m : Mm) : Rs (List PyData) := rb (x g m) piA
theorem ii_A : II (ofI Xp (xiA x)) (diA (ofE Xp x)) := fun g m Q q => post_rb q fun e m1 q => let ⟨_, h, q⟩ := post_xo q; seqX_of h q
def piS (e : E) (m : Mm) : Rs (List PyData) := gD e fun d => gS d fun z => .ok (signsD z) m
def xiS (x : XE) (g : Gm) (m : Mm) : Rs (List PyData) := rb (x g m) piS
theorem ii_S : II (ofI Xp (xiS x)) (diS (ofE Xp x)) := fun g m Q q => post_rb q fun e m1 q => gD_of q fun d q => gS_of q fun z q => q
def intsR1 : List E → Option Int
  | [.dat (.int j)] => some j
  | _ => none
def intsR2 : List E → Option (Int × Int)
  | [.dat (.int i), .dat (.int j)] => some (i, j)
  | _ => none
def piR1 (es : List E) (m : Mm) : Rs (List PyData) := xo (intsR1 es) fun j => xg (decide (-(2 ^ 62) ≤ j ∧ j < 2 ^ 62)) (.ok (rangeD 0 j.toNat) m)
def xiR1 (xa : XA) (g : Gm) (m : Mm) : Rs (List PyData) := rb (xa g m) piR1
theorem ii_R1 : II (ofI Xp (xiR1 xa)) (diR1 (ofA Xp xa)) := fun g m Q q => post_rb q fun es m1 q => by
  obtain ⟨j, h, q1⟩ := post_xo q
  obtain ⟨c, q2⟩ := post_xg q1
  unfold intsR1 at h
  split at h
  · cases h
    exact ⟨of_decide_eq_true c, q2⟩
  · cases h
def piR2 (es : List E) (m : Mm) : Rs (List PyData) := xo (intsR2 es) fun j => xg (decide (-(2 ^ 62) ≤ j.1 ∧ j.1 < 2 ^ 62 ∧ -(2 ^ 62) ≤ j.2 ∧ j.2 < 2 ^ 62)) (.ok (rangeD j.1 (j.2 - j.1).toNat) m)
def xiR2 (xa : XA) (g : Gm) (m : Mm) : Rs (List PyData) := rb (xa g m) piR2
theorem ii_R2 : II (ofI Xp (xiR2 xa)) (diR2 (ofA Xp xa)) := fun g m Q q => post_rb q fun es m1 q => by
  obtain ⟨j, h, q1⟩ := post_xo q
  obtain ⟨c, q2⟩ := post_xg q1
  unfold intsR2 at h
  split at h
  · cases h
    exact ⟨of_decide_eq_true c, q2⟩
  · cases h
def piRv1 (e : E) (m : Mm) : Rs (List PyData) := gD e fun d => gI d fun j => xg (decide (-(2 ^ 62) ≤ j ∧ j < 2 ^ 62)) (.ok (downD j.toNat) m)
def xiRv1 (x : XE) (g : Gm) (m : Mm) : Rs (List PyData) := rb (x g m) piRv1
theorem ii_Rv1 : II (ofI Xp (xiRv1 x)) (diRv1 (ofE Xp x)) := fun g m Q q => post_rb q fun e m1 q => gD_of q fun d q => gI_of q fun j q => let ⟨c, q⟩ := post_xg q; ⟨of_decide_eq_true c, q⟩
def list1 : List E → Option (List PyData)
  | [.dat (.list ds)] => some ds
  | _ => none
def piEn (es : List E) (m : Mm) : Rs (List PyData) := xo (list1 es) fun ds => .ok (enumD ds) m
def xiEn (xa : XA) (g : Gm) (m : Mm) : Rs (List PyData) := rb (xa g m) piEn
theorem ii_En : II (ofI Xp (xiEn xa)) (diEn (ofA Xp xa)) := fun g m Q q => post_rb q fun es m1 q => by
  obtain ⟨j, h, q1⟩ := post_xo q
  unfold list1 at h
  split at h
  · cases h
    exact q1
  · cases h
end
end DL
/-! DXc: loops, comprehensions, calls, defs as plain functions. -/
namespace DL
open PySem PySem.Spec PyProof.Rows L2

/-! ### the head of a loop: what is not asked any more is forgotten -/
def inS (n : Nat) : Option E → Bool
  | none => true
  | some e => inE n e
def gcM (n : Option Nat) (g : Gm) (m : Mm) : Mm := match n with
  | none => m
  | some n => match g.all (inS n) && (m.take n).all (inO n) with
    | true => m.take n
    | false => m
theorem gcM_none {g : Gm} {m : Mm} : gcM none g m = m := rfl
section
variable {K : PySem.W.Frag} {W : Wd} {S S1 : Sd} {m : Mm} {H : Hp} {σ : L2.St} {g : Gm}
theorem Rep.trim (R : Rep K W S m H) (n : Nat) (hn : W.A0 <+: S.A.take n) (hc : (m.take n).all (inO n) = true) : Rep K W ⟨S.F, S.A.take n⟩ (m.take n) H := by
  have hA : ∀ k p, k < n → S.A[k]? = some p → (S.A.take n)[k]? = some p := fun k p hk h => by
    rw [List.getElem?_take_of_lt hk]
    exact h
  refine ⟨?_, R.nd.sublist (List.take_sublist _ _), R.sub, fun k p o hk hm hd => R.off k p o (take_get hk).2 (take_get hm).2 hd, fun q hq => R.live q (List.mem_of_mem_take hq), fun k p o hk hm => ?_, R.kept, fun q hq => R.mine q (List.mem_of_mem_take hq), R.fnew, hn⟩
  · show (S.A.take n).length = (m.take n).length
    rw [List.length_take, List.length_take, R.len]
  · have ho : inO n o = true := List.all_eq_true.mp hc o (List.mem_of_getElem? hm)
    exact okO_cut (Sub.refl _) hA rfl ho (R.ok k p o (take_get hk).2 (take_get hm).2)
theorem sl_wipeG (sl : Sl K S σ g) (ws : List Nat) : Sl K S σ (wipeG g ws) := sl.less (wipeG_len g ws) fun i e q => wipeG_some q
/-- the head's state: forgotten, cut -/
theorem nf_ok {n : Option Nat} {ws : List Nat} (R : Rep K W S m H) (sl : Sl K S σ g) (l : Le S1 S) (hn : ∀ k, n = some k → S1.A.length = k) (hW : W.A0 <+: S1.A) :
    ∃ S', Rep K W S' (gcM n (wipeG g ws) m) H ∧ Le S1 S' ∧ Sl K S' σ (wipeG g ws) := by
  have sl' := sl_wipeG sl ws
  cases n with
  | none => exact ⟨S, R, l, sl'⟩
  | some n =>
    have e := hn n rfl
    unfold gcM
    show ∃ S', Rep K W S' (match (wipeG g ws).all (inS n) && (m.take n).all (inO n) with | true => m.take n | false => m) H ∧ Le S1 S' ∧ Sl K S' σ (wipeG g ws)
    cases c : ((wipeG g ws).all (inS n) && (m.take n).all (inO n)) with
    | false => exact ⟨S, R, l, sl'⟩
    | true =>
      rw [Bool.and_eq_true] at c
      have eA : S.A.take n = S1.A := by
        obtain ⟨t, ht⟩ := l.a
        rw [← ht, ← e, List.take_left]
      refine ⟨⟨S.F, S.A.take n⟩, R.trim n (by rw [eA]; exact hW) c.2, ⟨l.f, by show S1.A <+: S.A.take n; rw [eA]; exact List.prefix_refl _⟩, ⟨sl'.len, fun i e he => ?_⟩⟩
      obtain ⟨v, hv, ev⟩ := sl'.at_ i e he
      refine ⟨v, hv, evE_cut (n := n) (Sub.refl _) (fun k p hk h => ?_) ?_ ev⟩
      · rw [List.getElem?_take_of_lt hk]
        exact h
      · exact List.all_eq_true.mp c.1 (some e) (List.mem_of_getElem? he)
end

/-! ### for -/
section
variable {X : Cx}
def gcN (gc : Bool) (m : Mm) : Option Nat := match gc with
  | true => some m.length
  | false => none
def dForW (ws : List Nat) (gc : Bool) (ti : DTI) (dg : DTG) (tb : DTS) : DTS := fun D g m => ti g m fun items m1 => ∃ I : Nat → Gm → Mm → Prop, I 0 (wipeG g ws) m1 ∧
  (∀ i x g m, items[i]? = some x → I i g m → dg (.dat x) g m fun g2 m2 => tb { D with nx := fun g m => I (i + 1) (wipeG g ws) (gcM (gcN gc m1) (wipeG g ws) m), ct := fun g m => I (i + 1) (wipeG g ws) (gcM (gcN gc m1) (wipeG g ws) m), bk := fun g m => D.nx (wipeG g ws) (gcM (gcN gc m1) (wipeG g ws) m) } g2 m2) ∧ ∀ g m, I items.length g m → D.nx g m
theorem ds_forW (ws : List Nat) (gc : Bool) {iter tg : Expr} {body : List Stmt} {ti : DTI} {dg : DTG} {tb : DTS} {pos : Pos} (hp : PassesOwn (model X.prog X.w) X.A X.env X.xe) (hc : X.calm = true) (hi : DI X tg iter ti) (hg : DG X tg dg) (hb : DSs X body tb)
    (hs : ∀ x, foldedSetIterable iter X.env x = pure x := by intro _; rfl) : DS X (.For tg iter body [] pos) (dForW ws gc ti dg tb) := by
  obtain ⟨_, pi, si⟩ := hi.ex
  obtain ⟨_, pg, sg⟩ := hg.ex
  obtain ⟨_, pb, sb⟩ := hb.ex
  refine ⟨_, ps_for hp hc pi pg pb hs, fun W S g m σ H D R r0 sl hq k => ?_⟩
  refine si W S g m σ H _ _ r0 sl hq fun J H1 S1 items m1 r1 l1 y1 q1 => ?_
  obtain ⟨I, i0, turn, fin⟩ := q1
  have hn : ∀ k, gcN gc m1 = some k → S1.A.length = k := fun k e => by
    cases gc with
    | false => cases e
    | true =>
      cases e
      exact r1.len
  refine ⟨fun i n σ H => n = items.length - i ∧ i ≤ items.length ∧ ∃ S2 g m, Rep X.K W S2 m H ∧ Le S1 S2 ∧ Sl X.K S2 σ g ∧ I i g m, ⟨_, rfl, Nat.zero_le _, S1, _, m1, r1, Le.refl _, sl_wipeG (sl.mono l1) ws, i0⟩, ?_⟩
  rintro i n σ H ⟨rfl, hi, S2, g, m, r2, l2, sl2, i2⟩
  obtain ⟨ygo, yst⟩ := y1 W S2 m H l2 r2
  have l02 := l1.trans l2
  by_cases hlt : i < items.length
  · obtain ⟨go, yy⟩ := ygo i items[i] (List.getElem?_eq_getElem hlt)
    refine Or.inr ⟨go, fun σ' H' => ∃ S2 g m, Rep X.K W S2 m H' ∧ Le S1 S2 ∧ Sl X.K S2 σ' g ∧ I (i + 1) g m, fun σ' H' n => ⟨items.length - (i + 1), by omega, rfl, hlt, n⟩, fun x H3 hy => ?_⟩
    obtain ⟨S3, r3, l3, ex⟩ := yy x H3 hy
    refine sg W S3 g m σ H3 x (.dat items[i]) _ _ r3 (sl2.mono l3) ex (turn i _ g m (List.getElem?_eq_getElem hlt) i2) fun σ4 H4 S4 g4 m4 r4 l4 sl4 q4 => ?_
    have l14 := (l2.trans l3).trans l4
    have l04 := l1.trans l14
    refine sb W S4 g4 m4 σ4 H4 _ _ r4 sl4 q4 ⟨fun σ' H' S' g' m' a b c d => ?_, fun v H' S' e m' a b => k.rt v H' S' e m' a (l04.trans b),
      fun σ' H' S' g' m' a b c d => ?_, fun σ' H' S' g' m' a b c d => ?_⟩
    · obtain ⟨S5, r5, l5, sl5⟩ := nf_ok (ws := ws) a c (l14.trans b) hn r1.pre
      exact ⟨S5, _, _, r5, l5, sl5, d⟩
    · obtain ⟨S5, r5, l5, sl5⟩ := nf_ok (ws := ws) a c (l14.trans b) hn r1.pre
      exact k.nx σ' H' S5 _ _ r5 (l1.trans l5) sl5 d
    · obtain ⟨S5, r5, l5, sl5⟩ := nf_ok (ws := ws) a c (l14.trans b) hn r1.pre
      exact ⟨S5, _, _, r5, l5, sl5, d⟩
  · have e : i = items.length := by omega
    subst e
    exact Or.inl ⟨yst, k.nx σ H S2 g m r2 l02 sl2 (fin g m i2)⟩
end
def fb (r : Rs Fl) (k b : Gm → Mm → Rs Fl) : Rs Fl := match r with
  | .ok (.nx g) m => k g m
  | .ok (.ct g) m => k g m
  | .ok (.bk g) m => b g m
  | r => r
theorem fb_nx {g : Gm} {m : Mm} {k b : Gm → Mm → Rs Fl} : fb (.ok (.nx g) m) k b = k g m := rfl
theorem fb_ct {g : Gm} {m : Mm} {k b : Gm → Mm → Rs Fl} : fb (.ok (.ct g) m) k b = k g m := rfl
theorem fb_bk {g : Gm} {m : Mm} {k b : Gm → Mm → Rs Fl} : fb (.ok (.bk g) m) k b = b g m := rfl
theorem fb_rt {e : E} {m : Mm} {k b : Gm → Mm → Rs Fl} : fb (.ok (.rt e) m) k b = .ok (.rt e) m := rfl
theorem fb_ex {e : Exn} {m : Mm} {k b : Gm → Mm → Rs Fl} : fb (.ex e m) k b = .ex e m := rfl
/-- after a turn -/
def kNf (ws : List Nat) (n : Option Nat) (k : Gm → Mm → Rs Fl) (g : Gm) (m : Mm) : Rs Fl := k (wipeG g ws) (gcM n (wipeG g ws) m)
def forL (ws : List Nat) (n : Option Nat) (dg : XG) (tb : XS) : List PyData → Gm → Mm → Rs Fl
  | [], g, m => .ok (.nx g) m
  | d :: ds, g, m => fb (rb (dg (.dat d) g m) tb) (kNf ws n (forL ws n dg tb ds)) (kNf ws n kNx)
theorem forL_nil {ws : List Nat} {n : Option Nat} {dg : XG} {tb : XS} {g : Gm} {m : Mm} : forL ws n dg tb [] g m = .ok (.nx g) m := rfl
theorem forL_cons {ws : List Nat} {n : Option Nat} {dg : XG} {tb : XS} {d : PyData} {ds : List PyData} {g : Gm} {m : Mm} : forL ws n dg tb (d :: ds) g m = fb (rb (dg (.dat d) g m) tb) (kNf ws n (forL ws n dg tb ds)) (kNf ws n kNx) := rfl
def kFor (ws : List Nat) (gc : Bool) (dg : XG) (tb : XS) (g : Gm) (items : List PyData) (m : Mm) : Rs Fl := forL ws (gcN gc m) dg tb items (wipeG g ws) m
def xFor (ws : List Nat) (gc : Bool) (ti : XI) (dg : XG) (tb : XS) (g : Gm) (m : Mm) : Rs Fl := rb (ti g m) (kFor ws gc dg tb g)
section
variable {Xp : XP} {xi : XI} {G : XG} {s : XS} {t : XT}
theorem fb_post {r : Rs Fl} {k b : Gm → Mm → Rs Fl} {D : DEnds} {P B : Gm → Mm → Prop} (q : (fb r k b).post (flD D) Xp) (hk : ∀ g m, (k g m).post (flD D) Xp → P g m) (hb : ∀ g m, (b g m).post (flD D) Xp → B g m) : r.post (flD { D with nx := P, ct := P, bk := B }) Xp := by
  cases r with
  | ex x m => exact q
  | no => exact q
  | ok f m =>
    cases f with
    | nx g => exact hk g m q
    | ct g => exact hk g m q
    | bk g => exact hb g m q
    | rt e => exact q
theorem i_ForW {ws : List Nat} {gc : Bool} : IS (ofS Xp (xFor ws gc xi G s)) (dForW ws gc (ofI Xp xi) (ofG Xp G) (ofS Xp s)) := fun D g m q => post_rb (x := xi g m) q fun items m1 q => by
  refine ⟨fun i g m => (forL ws (gcN gc m1) G s (items.drop i) g m).post (flD D) Xp, q, fun i x g m hx hI => ?_, fun g m hI => ?_⟩
  · have hi : i < items.length := (List.getElem?_eq_some_iff.mp hx).1
    have e : items.drop i = x :: items.drop (i + 1) := by
      rw [List.drop_eq_getElem_cons hi]
      congr 1
      exact (List.getElem?_eq_some_iff.mp hx).2
    have hI' : (forL ws (gcN gc m1) G s (items.drop i) g m).post (flD D) Xp := hI
    rw [e] at hI'
    have z := fb_post (r := rb (G (.dat x) g m) s) (P := fun g m => (forL ws (gcN gc m1) G s (items.drop (i + 1)) (wipeG g ws) (gcM (gcN gc m1) (wipeG g ws) m)).post (flD D) Xp) (B := fun g m => D.nx (wipeG g ws) (gcM (gcN gc m1) (wipeG g ws) m)) hI' (fun g m q => q) (fun g m q => q)
    exact post_rb (x := G (.dat x) g m) z fun g2 m2 q => q
  · have hI' : (forL ws (gcN gc m1) G s (items.drop items.length) g m).post (flD D) Xp := hI
    rw [List.drop_length] at hI'
    exact hI'
end

/-! ### while -/
def dWhileW (ws : List Nat) (gc : Bool) (c : DTT) (tb : DTS) : DTS := fun D g m => ∃ I : Nat → Gm → Mm → Prop, (∃ n, I n (wipeG g ws) m) ∧ ∀ n g' m', I n g' m' → c g' m' fun b m1 =>
  if b = true then tb { D with nx := fun g m2 => ∃ n', n' < n ∧ I n' (wipeG g ws) (gcM (gcN gc m) (wipeG g ws) m2), ct := fun g m2 => ∃ n', n' < n ∧ I n' (wipeG g ws) (gcM (gcN gc m) (wipeG g ws) m2), bk := fun g m2 => D.nx (wipeG g ws) (gcM (gcN gc m) (wipeG g ws) m2) } g' m1 else D.nx g' m1
section
variable {X : Cx}
theorem ds_whileW (ws : List Nat) (gc : Bool) {c : Expr} {body : List Stmt} {tc : DTT} {tb : DTS} {pos : Pos} (hp : PassesOwn (model X.prog X.w) X.A X.env X.xe) (h : DT X c tc) (h' : DSs X body tb) : DS X (.While c body [] pos) (dWhileW ws gc tc tb) := by
  obtain ⟨_, p, s⟩ := h.ex
  obtain ⟨_, p', s'⟩ := h'.ex
  refine ⟨_, ps_while hp p p', fun W S g m σ H D R r0 sl hq k => ?_⟩
  obtain ⟨I, ⟨n0, i0⟩, turn⟩ := hq
  have hn : ∀ k, gcN gc m = some k → S.A.length = k := fun k e => by
    cases gc with
    | false => cases e
    | true =>
      cases e
      exact r0.len
  refine ⟨fun n σ H => ∃ S1 g m, Rep X.K W S1 m H ∧ Le S S1 ∧ Sl X.K S1 σ g ∧ I n g m, ⟨n0, S, _, m, r0, Le.refl S, sl_wipeG sl ws, i0⟩, ?_⟩
  rintro n σ H ⟨S1, g1, m1, r1, l1, sl1, i1⟩
  refine s W S1 g1 m1 σ H _ _ r1 sl1 (turn n g1 m1 i1) fun b H2 S2 m2 r2 l2 q2 => ?_
  cases b with
  | false => exact k.nx σ H2 S2 g1 m2 r2 (l1.trans l2) (sl1.mono l2) q2
  | true =>
    refine ⟨fun σ' H' => ∃ S' g' m', Rep X.K W S' m' H' ∧ Le S S' ∧ Sl X.K S' σ' g' ∧ ∃ n', n' < n ∧ I n' g' m', fun σ' H' ⟨S', g', m', a, b, c, n', d, e⟩ => ⟨n', d, S', g', m', a, b, c, e⟩, ?_⟩
    have l02 := l1.trans l2
    refine s' W S2 g1 m2 σ H2 _ _ r2 (sl1.mono l2) q2 ⟨fun σ' H' S' g' m' a b c d => ?_, fun v H' S' e m' a b => k.rt v H' S' e m' a (l02.trans b),
      fun σ' H' S' g' m' a b c d => ?_, fun σ' H' S' g' m' a b c d => ?_⟩
    · obtain ⟨S5, r5, l5, sl5⟩ := nf_ok (ws := ws) a c (l02.trans b) hn r0.pre
      exact ⟨S5, _, _, r5, l5, sl5, d⟩
    · obtain ⟨S5, r5, l5, sl5⟩ := nf_ok (ws := ws) a c (l02.trans b) hn r0.pre
      exact k.nx σ' H' S5 _ _ r5 l5 sl5 d
    · obtain ⟨S5, r5, l5, sl5⟩ := nf_ok (ws := ws) a c (l02.trans b) hn r0.pre
      exact ⟨S5, _, _, r5, l5, sl5, d⟩
end
mutual
def whL (ws : List Nat) (n : Option Nat) (c : XT) (tb : XS) : Nat → Gm → Mm → Rs Fl
  | 0, _, _ => .no
  | f + 1, g, m => rb (c g m) (whK ws n c tb f g)
def whK (ws : List Nat) (n : Option Nat) (c : XT) (tb : XS) (f : Nat) (g : Gm) (b : Bool) (m : Mm) : Rs Fl := match b with
  | true => fb (tb g m) (kNf ws n (whL ws n c tb f)) (kNf ws n kNx)
  | false => .ok (.nx g) m
end
theorem whL_succ {ws : List Nat} {n : Option Nat} {c : XT} {tb : XS} {f : Nat} {g : Gm} {m : Mm} : whL ws n c tb (f + 1) g m = rb (c g m) (whK ws n c tb f g) := by rw [whL]
theorem whK_true {ws : List Nat} {n : Option Nat} {c : XT} {tb : XS} {f : Nat} {g : Gm} {m : Mm} : whK ws n c tb f g true m = fb (tb g m) (kNf ws n (whL ws n c tb f)) (kNf ws n kNx) := by rw [whK]
theorem whK_false {ws : List Nat} {n : Option Nat} {c : XT} {tb : XS} {f : Nat} {g : Gm} {m : Mm} : whK ws n c tb f g false m = .ok (.nx g) m := by rw [whK]
def xWhile (fuel : Nat) (ws : List Nat) (gc : Bool) (c : XT) (tb : XS) (g : Gm) (m : Mm) : Rs Fl := whL ws (gcN gc m) c tb fuel (wipeG g ws) m
section
variable {Xp : XP} {xi : XI} {G : XG} {s : XS} {t : XT}
theorem i_WhileW {fuel : Nat} {ws : List Nat} {gc : Bool} : IS (ofS Xp (xWhile fuel ws gc t s)) (dWhileW ws gc (ofT Xp t) (ofS Xp s)) := fun D g m q => by
  refine ⟨fun f g' m' => (whL ws (gcN gc m) t s f g' m').post (flD D) Xp, ⟨fuel, q⟩, fun n g' m' hI => ?_⟩
  have hI' : (whL ws (gcN gc m) t s n g' m').post (flD D) Xp := hI
  cases n with
  | zero =>
    rw [whL] at hI'
    exact hI'.elim
  | succ n =>
    rw [whL_succ] at hI'
    refine post_rb (x := t g' m') hI' fun b m1 q => ?_
    cases b with
    | false =>
      rw [whK_false] at q
      exact q
    | true =>
      rw [whK_true] at q
      exact fb_post q (fun g m q => ⟨n, Nat.lt_succ_self n, q⟩) (fun g m q => q)
end

/-! ### comprehensions -/
def kLc3 (k : Mm → Rs (List PyData)) (e : E) (m : Mm) : Rs (List PyData) := gD e fun d => rb (k m) fun ds m' => .ok (d :: ds) m'
def kLcE (te : XE) (k : Mm → Rs (List PyData)) (g : Gm) (m : Mm) : Rs (List PyData) := rb (te g m) (kLc3 k)
def kLcN (k : Mm → Rs (List PyData)) (_ : Gm) (m : Mm) : Rs (List PyData) := k m
def kLc2 (te : XE) (k : Mm → Rs (List PyData)) (g : Gm) (b : Bool) (m : Mm) : Rs (List PyData) := xif b (kLcE te k) (kLcN k) g m
def kLc1 (dt : XT) (te : XE) (k : Mm → Rs (List PyData)) (g : Gm) (m : Mm) : Rs (List PyData) := rb (dt g m) (kLc2 te k g)
def lcL (dg : XG) (dt : XT) (te : XE) (g : Gm) : List PyData → Mm → Rs (List PyData)
  | [], m => .ok [] m
  | d :: ds, m => rb (dg (.dat d) g m) (kLc1 dt te (lcL dg dt te g ds))
theorem lcL_nil {dg : XG} {dt : XT} {te : XE} {g : Gm} {m : Mm} : lcL dg dt te g [] m = .ok [] m := rfl
theorem lcL_cons {dg : XG} {dt : XT} {te : XE} {g : Gm} {m : Mm} {d : PyData} {ds : List PyData} : lcL dg dt te g (d :: ds) m = rb (dg (.dat d) g m) (kLc1 dt te (lcL dg dt te g ds)) := rfl
def pLcEnd (ds : List PyData) (m : Mm) : Rs E := .ok (.dat (.list ds)) m
def kLc (dg : XG) (dt : XT) (te : XE) (vs : List Nat) (g : Gm) (items : List PyData) (m : Mm) : Rs E := xg (decide (items.length ≤ sizeLine)) (rb (lcL dg dt te (wipeG g vs) items m) pLcEnd)
def xLc (ti : XI) (dg : XG) (dt : XT) (te : XE) (vs : List Nat) (g : Gm) (m : Mm) : Rs E := rb (ti g m) (kLc dg dt te vs g)
section
variable {Xp : XP} {xi : XI} {G : XG} {s : XS} {t : XT} {x : XE}
theorem i_Lc {vs : List Nat} : IE (ofE Xp (xLc xi G t x vs)) (dLc (ofI Xp xi) (ofG Xp G) (ofT Xp t) (ofE Xp x) vs) := fun g m Q q => post_rb (x := xi g m) q fun items m1 q => by
  obtain ⟨hl, q⟩ := post_xg q
  have hl := of_decide_eq_true hl
  refine ⟨fun i acc m => acc.length ≤ i ∧ (lcL G t x (wipeG g vs) (items.drop i) m).post (fun ds m => Q (.dat (.list (acc ++ ds))) m) Xp, ⟨Nat.le_refl _, post_rb q fun ds m q => q⟩, fun i d acc m hx hI => ?_, fun acc m hI => ?_⟩
  · have hi : i < items.length := (List.getElem?_eq_some_iff.mp hx).1
    have e : items.drop i = d :: items.drop (i + 1) := by
      rw [List.drop_eq_getElem_cons hi]
      congr 1
      exact (List.getElem?_eq_some_iff.mp hx).2
    obtain ⟨ha, hI'⟩ := hI
    rw [e] at hI'
    refine post_rb (x := G (.dat d) (wipeG g vs) m) hI' fun g2 m2 q => post_rb q fun b m3 q => ?_
    cases b with
    | false => exact ⟨by omega, q⟩
    | true =>
      exact post_rb (x := x g2 m3) q fun v m4 q => gD_of q fun y q => ⟨by omega, by rw [List.length_append, List.length_singleton]; omega, post_rb q fun ds m q => by
        rw [List.append_assoc]
        exact q⟩
  · obtain ⟨_, hI'⟩ := hI
    rw [List.drop_length] at hI'
    have z : Q (.dat (.list (acc ++ []))) m := hI'
    rw [List.append_nil] at z
    exact z
end

/-! ### calls -/
/-- what a def does: of its arguments, of the ledger -/
abbrev XF := List E → Mm → Rs E
def ofF (Xp : XP) (f : XF) : DSp := fun es m Q => (f es m).post Q Xp
def fDef (N : List Str) (body : XS) (es : List E) (m : Mm) : Rs E := match body (startG N es) m with
  | .ok (.nx _) m => .ok (.dat .none) m
  | .ok (.rt e) m => .ok e m
  | .ok _ _ => .no
  | .ex x m => .ex x m
  | .no => .no
theorem i_Def {N : List Str} {body : XS} {Xp : XP} {es : List E} {m : Mm} {dQ : E → Mm → Prop} (h : ofF Xp (fDef N body) es m dQ) : ofS Xp body { nx := fun _ m' => dQ (.dat .none) m', rt := dQ } (startG N es) m := by
  have h' : (fDef N body es m).post dQ Xp := h
  unfold fDef at h'
  show (body (startG N es) m).post _ Xp
  split at h' <;> rename_i e
  · rw [e]; exact h'
  · rw [e]; exact h'
  · exact h'.elim
  · rw [e]; exact h'
  · exact h'.elim
def fEnd (r : Rs Fl) : Rs E := match r with
  | .ok (.nx _) m => .ok (.dat .none) m
  | .ok (.rt e) m => .ok e m
  | .ok _ _ => .no
  | .ex x m => .ex x m
  | .no => .no
theorem fDef_eq {N : List Str} {body : XS} {es : List E} {m : Mm} : fDef N body es m = fEnd (body (startG N es) m) := rfl
theorem fEnd_nx {g : Gm} {m : Mm} : fEnd (.ok (.nx g) m) = .ok (.dat .none) m := rfl
theorem fEnd_rt {e : E} {m : Mm} : fEnd (.ok (.rt e) m) = .ok e m := rfl
theorem fEnd_ex {e : Exn} {m : Mm} : fEnd (.ex e m) = .ex e m := rfl
def kCallB (n : Nat) (m1 : Mm) (e : E) (m2 : Mm) : Rs E := gD e fun d => xg ((m2.take n).all (inO n)) (.ok (.dat d) (m2.take n ++ m1.drop n))
def kCallN (k n : Nat) (f : XF) (es : List E) (m1 : Mm) : Rs E := xg (decide (es.length = k) && decide (n ≤ m1.length) && (m1.take n).all (inO n) && es.all (inE n)) (rb (f es (m1.take n)) (kCallB n m1))
def xCallN (k n : Nat) (f : XF) (xa : XA) (g : Gm) (m : Mm) : Rs E := rb (xa g m) (kCallN k n f)
def kCallA (k : Nat) (f : XF) (es : List E) (m1 : Mm) : Rs E := xg (decide (es.length = k)) (f es m1)
def xCallA (k : Nat) (f : XF) (xa : XA) (g : Gm) (m : Mm) : Rs E := rb (xa g m) (kCallA k f)
def kCallK' (G : {α : Type} → List α → List α → List α) (k n : Nat) (f : XF) (es fs : List E) (m : Mm) : Rs E := kCallN k n f (G es fs) m
def kCallK (G : {α : Type} → List α → List α → List α) (k n : Nat) (f : XF) (xk : XA) (g : Gm) (es : List E) (m : Mm) : Rs E := rb (xk g m) (kCallK' G k n f es)
def xCallK (G : {α : Type} → List α → List α → List α) (k n : Nat) (f : XF) (xa xk : XA) (g : Gm) (m : Mm) : Rs E := rb (xa g m) (kCallK G k n f xk g)
section
variable {Xp : XP} {xa xk : XA} {f : XF}
theorem kCallN_of {k n : Nat} {es : List E} {m1 : Mm} {Q : E → Mm → Prop} (q : (kCallN k n f es m1).post Q Xp) : es.length = k ∧ n ≤ m1.length ∧ (m1.take n).all (inO n) = true ∧ es.all (inE n) = true ∧
    ofF Xp f es (m1.take n) fun e m2 => onD e fun d => (m2.take n).all (inO n) = true ∧ Q (.dat d) (m2.take n ++ m1.drop n) := by
  obtain ⟨c, q⟩ := post_xg q
  rw [Bool.and_eq_true, Bool.and_eq_true, Bool.and_eq_true] at c
  exact ⟨of_decide_eq_true c.1.1.1, of_decide_eq_true c.1.1.2, c.1.2, c.2, post_rb q fun e m2 q => gD_of q fun d q => post_xg q⟩
theorem i_CallN {k n : Nat} : IE (ofE Xp (xCallN k n f xa)) (dCallN k n (ofF Xp f) (ofA Xp xa)) := fun g m Q q => post_rb q fun es m1 q => kCallN_of q
theorem i_CallA {k : Nat} : IE (ofE Xp (xCallA k f xa)) (dCallA k (ofF Xp f) (ofA Xp xa)) := fun g m Q q => post_rb q fun es m1 q => let ⟨c, q⟩ := post_xg q; ⟨of_decide_eq_true c, q⟩
theorem i_CallK {G : {α : Type} → List α → List α → List α} {k n : Nat} : IE (ofE Xp (xCallK G k n f xa xk)) (dCallK G k n (ofF Xp f) (ofA Xp xa) (ofA Xp xk)) := fun g m Q q => post_rb q fun es m1 q => post_rb q fun fs m2 q => kCallN_of q
/-- a pure call -/
theorem kCallN_pure {k : Nat} {ds : List PyData} {d : PyData} {m m' : Mm} (hk : ds.length = k) (h : f (ds.map .dat) [] = .ok (.dat d) m') : kCallN k 0 f (ds.map .dat) m = .ok (.dat d) m := by
  have c : (decide ((ds.map E.dat).length = k) && decide (0 ≤ m.length) && (m.take 0).all (inO 0) && (ds.map E.dat).all (inE 0)) = true := by
    rw [dats_in]
    simp [hk]
  unfold kCallN
  rw [c, xg_true, List.take_zero, h, rb_ok]
  unfold kCallB
  simp [gD_dat, xg_true]
end
end DL
/-! DXd: dict comprehensions, list.index, dict(pairs). -/
namespace DL
open PySem PySem.Spec PyProof.Rows L2

/-! ### {k: v for ..}: a datum, or a thing of the ledger -/
def putA {α : Type} (kvs : List (Key × α)) (k : Key) (a : α) : List (Key × α) := if kvs.any (fun kv => decide (kv.1 = k)) = true then kvs.map (fun kv => if kv.1 = k then (kv.1, a) else kv) else kvs ++ [(k, a)]
def dicD (kvs : List (Key × PyData)) : PyData := .dict (kvs.map fun p => (keyD p.1, p.2))
def dicE (kvs : List (Key × PyData)) : OD := .dic (kvs.map fun p => (p.1, .dat p.2))
abbrev DvK (K : PySem.W.Frag) (F : Hp) : List (Key × V) → List (Key × PyData) → Prop := Paired fun a b => a.1 = b.1 ∧ Dv K F a.2 b.2
theorem dvk_mono {K : PySem.W.Frag} {F F' : Hp} (l : Sub F F') {ws : List (Key × V)} {kvs : List (Key × PyData)} (h : DvK K F ws kvs) : DvK K F' ws kvs := Paired.mapP h fun _ _ z => ⟨z.1, Dv.mono l z.2⟩
theorem dvk_kv {K : PySem.W.Frag} {F : Hp} : ∀ {ws : List (Key × V)} {kvs : List (Key × PyData)}, DvK K F ws kvs → DvKv K F ws (kvs.map fun p => (keyD p.1, p.2))
  | _, _, .nil => .nil
  | (k1, v1) :: _, (k2, d2) :: _, .cons h t => by
    have hk : k1 = k2 := h.1
    subst hk
    exact .cons h.2 (dvk_kv t)
theorem dvk_ev {K : PySem.W.Frag} {S : Sd} : ∀ {ws : List (Key × V)} {kvs : List (Key × PyData)}, DvK K S.F ws kvs → EvKv K S ws (kvs.map fun p => (p.1, E.dat p.2))
  | _, _, .nil => .nil
  | _ :: _, _ :: _, .cons h t => .cons ⟨h.1, h.2⟩ (dvk_ev t)
theorem dvk_any {K : PySem.W.Frag} {F : Hp} {k : Key} : ∀ {ws : List (Key × V)} {kvs : List (Key × PyData)}, DvK K F ws kvs → (ws.any fun kv => decide (kv.1 = k)) = (kvs.any fun kv => decide (kv.1 = k))
  | _, _, .nil => rfl
  | _, _, .cons h t => by rw [List.any_cons, List.any_cons, dvk_any t, h.1]
theorem dvk_map {K : PySem.W.Frag} {F : Hp} {k : Key} {v : V} {e : PyData} (r : Dv K F v e) : ∀ {ws : List (Key × V)} {kvs : List (Key × PyData)}, DvK K F ws kvs → DvK K F (ws.map fun kv => if kv.1 = k then (kv.1, v) else kv) (kvs.map fun kv => if kv.1 = k then (kv.1, e) else kv)
  | _, _, .nil => .nil
  | (k1, v1) :: _, (k2, e2) :: _, .cons h t => by
    have hk : k1 = k2 := h.1
    subst hk
    rw [List.map_cons, List.map_cons]
    refine .cons ?_ (dvk_map r t)
    by_cases c : k1 = k
    · rw [if_pos c, if_pos c]
      exact ⟨rfl, r⟩
    · rw [if_neg c, if_neg c]
      exact ⟨rfl, h.2⟩
theorem dvk_app {K : PySem.W.Frag} {F : Hp} : ∀ {ws us : List (Key × V)} {kvs xs : List (Key × PyData)}, DvK K F ws kvs → DvK K F us xs → DvK K F (ws ++ us) (kvs ++ xs)
  | _, _, _, _, .nil, h => h
  | _, _, _, _, .cons h t, h' => .cons h (dvk_app t h')
theorem dvk_put {K : PySem.W.Frag} {F : Hp} {k : Key} {v : V} {e : PyData} (r : Dv K F v e) {ws : List (Key × V)} {kvs : List (Key × PyData)} (h : DvK K F ws kvs) : DvK K F (putK ws k v) (putA kvs k e) := by
  unfold putK putA
  rw [dvk_any h]
  split
  · exact dvk_map r h
  · exact dvk_app h (.cons ⟨rfl, r⟩ .nil)
theorem putA_len {α : Type} (kvs : List (Key × α)) (k : Key) (a : α) : (putA kvs k a).length ≤ kvs.length + 1 := by
  unfold putA
  split
  · rw [List.length_map]; omega
  · rw [List.length_append]; exact Nat.le_refl _
def dcRes (led : Bool) (acc : List (Key × PyData)) (m : Mm) (Q : E → Mm → Prop) : Prop := match led with
  | false => Q (.dat (dicD acc)) m
  | true => Q (.loc m.length) (m ++ [dicE acc])
def dDc (led : Bool) (ti : DTI) (dg : DTG) (dt : DTT) (tk tv : DTE) (vs : List Nat) : DTE := fun g m Q => ti g m fun items m1 => ∃ I : Nat → List (Key × PyData) → Mm → Prop, I 0 [] m1 ∧
  (∀ i x acc m, items[i]? = some x → I i acc m → dg (.dat x) (wipeG g vs) m fun g2 m2 => dt g2 m2 fun b m3 => if b = true then tk g2 m3 fun e m4 => tv g2 m4 fun e' m5 => onD e fun y => onKey y fun k => onD e' fun d => acc.length < sizeLine ∧ I (i + 1) (putA acc k d) m5 else I (i + 1) acc m3) ∧
  ∀ acc m, I items.length acc m → dcRes led acc m Q
theorem snd_dc {K : PySem.W.Frag} {led : Bool} {wi : TI} {tg : TG} {tt : TT} {trk tr : TE} {vs : List Nat} {ti : DTI} {dg : DTG} {dt : DTT} {tk te : DTE} (hi : SndI K wi ti) (hg : SndG K tg dg) (ho : GOnly tg vs) (ht : SndT K tt dt) (hk : Snd K trk tk) (he : Snd K tr te) :
    Snd K (tDc wi tg tt trk tr vs) (dDc led ti dg dt tk te vs) := by
  intro W S g m σ H Q R r0 sl hq k
  refine hi W S g m σ H _ _ r0 sl hq fun J H1 S1 items m1 r1 l1 y1 q1 => ?_
  obtain ⟨I, i0, turn, fin⟩ := q1
  intro D hD
  have h0 := r1.fresh0 hD
  refine ⟨fun i n H => n = items.length - i ∧ i ≤ items.length ∧ ∃ S2 m us acc, Rep K W S2 m H ∧ Le S1 S2 ∧ D ∉ S2.A ∧ S2.F D = none ∧ H D = some (.dK us) ∧ DvK K S2.F us acc ∧ I i acc m,
    ⟨_, rfl, Nat.zero_le _, S1, m1, [], [], r1.aside (r1.not_mem hD) (r1.freshF hD) h0, Le.refl _, r1.not_mem hD, r1.freshF hD, upd_same, .nil, i0⟩, ?_⟩
  rintro i n H ⟨rfl, hi, S2, m, us, acc, r2, l2, nA, nF, hHD, hus, i2⟩
  by_cases hlt : i < items.length
  · have r3 := r2.enter
    obtain ⟨ygo, _⟩ := y1 _ S2 m H l2 r3
    obtain ⟨go, yy⟩ := ygo i items[i] (List.getElem?_eq_getElem hlt)
    refine Or.inr ⟨go, fun H' => ∃ S2 m us acc, Rep K W S2 m H' ∧ Le S1 S2 ∧ D ∉ S2.A ∧ S2.F D = none ∧ H' D = some (.dK us) ∧ DvK K S2.F us acc ∧ I (i + 1) acc m, fun H' n => ⟨items.length - (i + 1), by omega, rfl, hlt, n⟩, fun x H4 hy => ?_⟩
    obtain ⟨S4, r4, l4, ex⟩ := yy x H4 hy
    have sl4 : Sl K S4 (wipe σ vs) (wipeG g vs) := sl_wipe (sl.mono ((l1.trans l2).trans l4)) vs
    have fact : ∀ {S' : Sd} {m' : Mm} {H' : Hp}, Rep K ⟨H, S2.A, S2.F⟩ S' m' H' → D ∉ S'.A ∧ S'.F D = none ∧ H' D = some (.dK us) := fun {S' m' H'} r => by
      refine ⟨fun z => ?_, ?_, r.kept D _ hHD nA⟩
      · rcases r.mine D z with q | q
        · exact nA q
        · have q' : H D = none := q
          rw [hHD] at q'
          cases q'
      · cases e : S'.F D with
        | none => rfl
        | some u =>
          rcases r.fnew D u e with q | q | q
          · have q' : S2.F D = some u := q
            rw [nF] at q'
            cases q'
          · have q' : H D = none := q
            rw [hHD] at q'
            cases q'
          · exact absurd q nA
    refine ho x σ H4 _ (hg _ S4 (wipeG g vs) m (wipe σ vs) H4 x (.dat items[i]) _ _ r4 sl4 ex (turn i _ acc m (List.getElem?_eq_getElem hlt) i2) fun σ5 H5 S5 g5 m5 r5 l5 sl5 q5 => ?_)
    refine ht _ S5 g5 m5 σ5 H5 _ _ r5 sl5 q5 fun b H6 S6 m6 r6 l6 q6 => ?_
    have l46 := (l4.trans l5).trans l6
    cases b with
    | false =>
      obtain ⟨a1, a2, a3⟩ := fact r6
      exact ⟨S6, m6, us, acc, r2.back (Sub.refl _) r6, l2.trans l46, a1, a2, a3, dvk_mono l46.f hus, q6⟩
    | true =>
      refine hk _ S6 g5 m6 σ5 H6 _ _ r6 (sl5.mono l6) q6 fun y H7 S7 e7 m7 r7 l7 ev7 q7 => ?_
      refine he _ S7 g5 m7 σ5 H7 _ _ r7 (sl5.mono (l6.trans l7)) q7 fun z H8 S8 e8 m8 r8 l8 ev8 q8 => ?_
      obtain ⟨d7, rfl, q9⟩ := onD_of q8
      obtain ⟨ky, rfl, q10⟩ := onKey_of q9
      obtain ⟨d8, rfl, q11⟩ := onD_of q10
      obtain ⟨a1, a2, a3⟩ := fact r8
      have l28 := (l46.trans l7).trans l8
      exact ⟨us, ky, dv_key ev7, a3, by rw [Paired.length hus]; exact q11.1, S8, m8, putK us ky z, putA acc ky d8, (r2.back (Sub.refl _) r8).aside a1 a2 h0, l2.trans l28, a1, a2, upd_same, dvk_put ev8 (dvk_mono l28.f hus), q11.2⟩
  · have e : i = items.length := by omega
    subst e
    obtain ⟨_, yst⟩ := y1 W S2 m H l2 r2
    have q := fin acc m i2
    cases led with
    | false =>
      obtain ⟨r3, l3⟩ := r2.known nA nF h0 hHD
      exact Or.inl ⟨yst, k (.ref D) H _ (.dat (dicD acc)) m r3 ((l1.trans l2).trans l3) (Dv.dic upd_same (dvk_kv (dvk_mono l3.f hus))) q⟩
    | true =>
      obtain ⟨r3, l3⟩ := r2.enlist (d := dicE acc) nA nF h0 (by rw [hHD]; exact fun z => nomatch z) ⟨us, hHD, dvk_ev hus⟩
      refine Or.inl ⟨yst, k (.ref D) H _ (.loc m.length) _ r3 ((l1.trans l2).trans l3) ⟨D, ?_, rfl⟩ q⟩
      show (S2.A ++ [D])[m.length]? = some D
      rw [← r2.len, List.getElem?_append_right (Nat.le_refl _), Nat.sub_self]
      rfl
section
variable {X : Cx} {scope : Scope} {tg iter kx vx : Expr} {ifs : List Expr} {ti : DTI} {dg : DTG} {dt : DTT} {tk tv : DTE} {pos : Pos}
theorem d_dc (led : Bool) (own : List (Str × Nat)) (hc : X.calm = true) (hN : X.N.Nodup) (hi : DI X tg iter ti) (ok : BlkOk X.N X.env.scope scope own) (hg : CG X scope tg (own.map (·.2)) dg) (ht : CT X scope ifs dt) (hk : CE' X scope kx tk) (he : CE' X scope vx tv)
    (hs : ∀ x, foldedSetIterable iter X.env x = pure x := by intro _; rfl) : DE X (.DictComp kx vx [⟨tg, iter, ifs, 0⟩] scope pos) (dDc led ti dg dt tk tv (own.map (·.2))) := by
  obtain ⟨_, pi, si⟩ := hi.ex
  obtain ⟨_, pg, sg, og⟩ := hg.ex
  obtain ⟨_, pt, st⟩ := ht.ex
  obtain ⟨_, pk, sk⟩ := hk.ex
  obtain ⟨_, pe, se⟩ := he.ex
  exact ⟨_, pe_dc hc hN pi ok pg pt pk pe hs, snd_dc si sg og st sk se⟩
end
/-- the function -/
def kDc4 (k : List (Key × PyData) → Mm → Rs (List (Key × PyData))) (acc : List (Key × PyData)) (a b : E) (m : Mm) : Rs (List (Key × PyData)) := gD a fun y => xo (keyX y) fun ky => gD b fun d => k (putA acc ky d) m
def kDc3 (tv : XE) (k : List (Key × PyData) → Mm → Rs (List (Key × PyData))) (acc : List (Key × PyData)) (g : Gm) (a : E) (m : Mm) : Rs (List (Key × PyData)) := rb (tv g m) (kDc4 k acc a)
def kDcE (tk tv : XE) (k : List (Key × PyData) → Mm → Rs (List (Key × PyData))) (acc : List (Key × PyData)) (g : Gm) (m : Mm) : Rs (List (Key × PyData)) := rb (tk g m) (kDc3 tv k acc g)
def kDcN (k : List (Key × PyData) → Mm → Rs (List (Key × PyData))) (acc : List (Key × PyData)) (_ : Gm) (m : Mm) : Rs (List (Key × PyData)) := k acc m
def kDc2 (tk tv : XE) (k : List (Key × PyData) → Mm → Rs (List (Key × PyData))) (acc : List (Key × PyData)) (g : Gm) (b : Bool) (m : Mm) : Rs (List (Key × PyData)) := xif b (kDcE tk tv k acc) (kDcN k acc) g m
def kDc1 (dt : XT) (tk tv : XE) (k : List (Key × PyData) → Mm → Rs (List (Key × PyData))) (acc : List (Key × PyData)) (g : Gm) (m : Mm) : Rs (List (Key × PyData)) := rb (dt g m) (kDc2 tk tv k acc g)
def dcL (dg : XG) (dt : XT) (tk tv : XE) (g : Gm) : List PyData → List (Key × PyData) → Mm → Rs (List (Key × PyData))
  | [], acc, m => .ok acc m
  | d :: ds, acc, m => rb (dg (.dat d) g m) (kDc1 dt tk tv (dcL dg dt tk tv g ds) acc)
theorem dcL_nil {dg : XG} {dt : XT} {tk tv : XE} {g : Gm} {m : Mm} {acc : List (Key × PyData)} : dcL dg dt tk tv g [] acc m = .ok acc m := rfl
theorem dcL_cons {dg : XG} {dt : XT} {tk tv : XE} {g : Gm} {m : Mm} {d : PyData} {ds : List PyData} {acc : List (Key × PyData)} : dcL dg dt tk tv g (d :: ds) acc m = rb (dg (.dat d) g m) (kDc1 dt tk tv (dcL dg dt tk tv g ds) acc) := rfl
def pDcEnd (led : Bool) (acc : List (Key × PyData)) (m : Mm) : Rs E := match led with
  | false => .ok (.dat (dicD acc)) m
  | true => .ok (.loc m.length) (m ++ [dicE acc])
def kDc (led : Bool) (dg : XG) (dt : XT) (tk tv : XE) (vs : List Nat) (g : Gm) (items : List PyData) (m : Mm) : Rs E := xg (decide (items.length ≤ sizeLine)) (rb (dcL dg dt tk tv (wipeG g vs) items [] m) (pDcEnd led))
def xDc (led : Bool) (ti : XI) (dg : XG) (dt : XT) (tk tv : XE) (vs : List Nat) (g : Gm) (m : Mm) : Rs E := rb (ti g m) (kDc led dg dt tk tv vs g)
section
variable {Xp : XP} {xi : XI} {G : XG} {t : XT} {x x1 x2 : XE} {xa : XA}
theorem i_Dc {led : Bool} {vs : List Nat} : IE (ofE Xp (xDc led xi G t x1 x2 vs)) (dDc led (ofI Xp xi) (ofG Xp G) (ofT Xp t) (ofE Xp x1) (ofE Xp x2) vs) := fun g m Q q => post_rb (x := xi g m) q fun items m1 q => by
  obtain ⟨hl, q⟩ := post_xg q
  have hl := of_decide_eq_true hl
  refine ⟨fun i acc m => acc.length ≤ i ∧ (dcL G t x1 x2 (wipeG g vs) (items.drop i) acc m).post (fun acc m => dcRes led acc m Q) Xp, ⟨Nat.le_refl _, post_rb q fun acc m q => ?_⟩, fun i d acc m hx hI => ?_, fun acc m hI => ?_⟩
  · cases led <;> exact q
  · have hi : i < items.length := (List.getElem?_eq_some_iff.mp hx).1
    have e : items.drop i = d :: items.drop (i + 1) := by
      rw [List.drop_eq_getElem_cons hi]
      congr 1
      exact (List.getElem?_eq_some_iff.mp hx).2
    obtain ⟨ha, hI'⟩ := hI
    rw [e] at hI'
    refine post_rb (x := G (.dat d) (wipeG g vs) m) hI' fun g2 m2 q => post_rb q fun b m3 q => ?_
    cases b with
    | false => exact ⟨by omega, q⟩
    | true =>
      exact post_rb (x := x1 g2 m3) q fun v m4 q => post_rb q fun v' m5 q => gD_of q fun y q => let ⟨k, hk, q⟩ := post_xo q; keyX_of hk (gD_of q fun d q => ⟨by omega, by have := putA_len acc k d; omega, q⟩)
  · obtain ⟨_, hI'⟩ := hI
    rw [List.drop_length] at hI'
    exact hI'

/-! ### xs.index(y), flat things -/
def idxD (y : PyData) : List PyData → Option Nat
  | [] => none
  | z :: r => match PyData.eqv z y with
    | true => some 0
    | false => (idxD y r).map (· + 1)
end
theorem idxD_some : ∀ {ds : List PyData} {y : PyData} {j : Nat}, idxD y ds = some j → ∃ z, ds[j]? = some z ∧ PyData.eqv z y = true ∧ ∀ m z', m < j → ds[m]? = some z' → PyData.eqv z' y = false
  | [], _, _, h => nomatch h
  | z :: r, y, j, h => by
    unfold idxD at h
    cases e : PyData.eqv z y with
    | true =>
      rw [e] at h
      cases h
      exact ⟨z, rfl, e, fun m z' hm => absurd hm (Nat.not_lt_zero m)⟩
    | false =>
      rw [e] at h
      obtain ⟨i, hi, hj⟩ := omap h
      subst hj
      obtain ⟨w, h1, h2, h3⟩ := idxD_some hi
      refine ⟨w, h1, h2, fun m z' hm hz => ?_⟩
      cases m with
      | zero => cases hz; exact e
      | succ m => exact h3 m z' (by omega) hz
def dIdx (to te : DTE) : DTE := fun g m Q => to g m fun a m1 => onList m1 a fun _ => te g m1 fun e m2 => onD e fun y => onList m2 a fun ds => flatD y = true ∧ ds.all flatD = true ∧ ∃ j, idxD y ds = some j ∧ Q (.dat (.int (j : Nat))) m2
theorem flat_dv {K : PySem.W.Frag} {F : Hp} {v : V} {d : PyData} (h : Dv K F v d) (f : flatD d = true) : flatV v = true := by
  cases h <;> first | rfl | cases f
theorem flats_dv {K : PySem.W.Frag} {F : Hp} : ∀ {vs : List V} {ds : List PyData}, DvAll K F vs ds → ds.all flatD = true → vs.all flatV = true
  | _, _, .nil, _ => rfl
  | _, _, .cons h t, f => by
    rw [List.all_cons, Bool.and_eq_true] at f ⊢
    exact ⟨flat_dv h f.1, flats_dv t f.2⟩
section
variable {X : Cx} {o e : Expr} {apos cpos : Pos} {to te : DTE} {ta : DTA} {p pos : Pos}
theorem d_idx (ho : DE X o to) (he : DE X e te) (hbase : attributeBase o "index" X.env (eval o X.env) = eval o X.env := by rfl)
    (hfew : ((backTo cpos (starEach (e :: []) X.env)).all (fun x => !x.1) && (backToKw cpos (keywordEach [] X.env)).all (fun x => x.1.isSome)
      && decide ((e :: []).length + ([] : List Keyword).length + (if ([] : List Keyword).isEmpty then 0 else 1) < 30)) = true := by rfl)
    (hline : (apos.endLine == cpos.line) = true := by rfl) (hs : starEach (e :: []) X.env = (false, eval e X.env) :: starEach [] X.env := by rfl) (hplain : (backTo cpos (starEach [] X.env)).any (·.1) = false := by rfl) :
    DE X (.Call (.Attribute o "index" apos) [e] [] cpos) (dIdx to te) := by
  obtain ⟨_, p1, s1⟩ := ho.ex
  obtain ⟨_, p2, s2⟩ := he.ex
  refine ⟨_, pe_bm PySem.F.plainAttrs_list PySem.F.slot_list_index PySem.F.type_list_index mt_index p1 (pa_cons p2 pa_nil hs) hbase hfew hline hs hplain, fun W S g m σ H Q R r0 sl hq k => ?_⟩
  refine s1 W S g m σ H _ _ r0 sl hq fun x H1 S1 a m1 r1 l1 ea q1 => ?_
  obtain ⟨p, vs, ds, rfl, hH, hds, q2⟩ := onList_of q1 r1 ea
  refine ⟨Or.inl ⟨rfl, vs, Or.inl (Or.inl hH)⟩, ?_⟩
  refine s2 W S1 g m1 σ H1 _ _ r1 (sl.mono l1) q2 fun y H2 S2 b m2 r2 l2 eb q3 => ?_
  obtain ⟨d, rfl, q4⟩ := onD_of q3
  obtain ⟨p2, vs2, ds2, ep, hH2, hds2, fy, fs, j, hj, q5⟩ := onList_of q4 r2 (EvE.mono l2 ea)
  cases ep
  obtain ⟨z, h1, h2, h3⟩ := idxD_some hj
  obtain ⟨v, hv, ev⟩ := DvAll.get' hds2 h1
  have fv := flat_dv (show Dv X.K S2.F y d from eb) fy
  have fvs := flats_dv hds2 fs
  refine ⟨p, vs2, y, j, v, rfl, rfl, Or.inl (Or.inl hH2), fv, fvs, hv, ?_, fun m z' hm hz' => ?_, k _ H2 S2 (.dat (.int _)) m2 r2 (l1.trans l2) (Dv.int _) q5⟩
  · rw [flat_eq ev (show Dv X.K S2.F y d from eb) (List.all_eq_true.mp fs _ (List.mem_of_getElem? h1)) fy]
    exact h2
  · obtain ⟨d', hd', ed'⟩ := DvAll.get hds2 hz'
    rw [flat_eq ed' (show Dv X.K S2.F y d from eb) (List.all_eq_true.mp fs _ (List.mem_of_getElem? hd')) fy]
    exact h3 m d' hm hd'
end
end DL
/-! DXe: list.index as a function; dict(pairs). -/
namespace DL
open PySem PySem.Spec PyProof.Rows L2

section
variable {Xp : XP} {x1 x2 : XE} {xa : XA}
def idxX (m : Mm) (a : E) (y : PyData) : Option Nat := (lstX m a).bind fun ds => (og (flatD y && ds.all flatD) ()).bind fun _ => idxD y ds
def isLst (m : Mm) (a : E) : Bool := (lstX m a).isSome
def pIdx (a e : E) (m : Mm) : Rs E := gD e fun y => xo (idxX m a y) fun j => .ok (.dat (.int (j : Nat))) m
def kIdx (x : XE) (g : Gm) (a : E) (m : Mm) : Rs E := xg (isLst m a) (rb (x g m) (pIdx a))
def xIdx (o x : XE) (g : Gm) (m : Mm) : Rs E := rb (o g m) (kIdx x g)
theorem isLst_of {m : Mm} {a : E} {P : List PyData → Prop} (h : isLst m a = true) (q : ∀ ds, P ds) : onList m a P := by
  unfold isLst at h
  cases e : lstX m a with
  | none => rw [e] at h; cases h
  | some ds => exact lstX_of e (q ds)
theorem i_Idx : IE (ofE Xp (xIdx x1 x2)) (dIdx (ofE Xp x1) (ofE Xp x2)) := fun g m Q q => post_rb q fun a m1 q => let ⟨h, q⟩ := post_xg q; isLst_of h fun _ => post_rb q fun e m2 q => gD_of q fun y q => by
  obtain ⟨j, hj, q⟩ := post_xo q
  obtain ⟨ds, hd, hj⟩ := obind hj
  obtain ⟨_, hf, hj⟩ := obind hj
  have c := (og_some hf).1
  rw [Bool.and_eq_true] at c
  exact lstX_of hd ⟨c.1, c.2, j, hj, q⟩
theorem isLst_list {m : Mm} {ds : List PyData} : isLst m (.dat (.list ds)) = true := rfl
theorem isLst_loc {m : Mm} {k : Nat} {ds : List PyData} (h : m[k]? = some (.lst (ds.map .dat))) : isLst m (.loc k) = true := by
  unfold isLst
  rw [lstX_loc h]
  rfl
end

/-! ### dict(pairs) -/
def pairX : PyData → Option (Key × PyData)
  | .tuple [k, v] => (keyX k).map fun k => (k, v)
  | _ => none
def pairsX : List PyData → Option (List (Key × PyData))
  | [] => some []
  | d :: r => (pairX d).bind fun p => (pairsX r).map (p :: ·)
def mergeA {α : Type} (kvs : List (Key × α)) (more : List (Key × α)) : List (Key × α) := more.foldl (fun a p => putA a p.1 p.2) kvs
def dDictP (led : Bool) (ta : DTA) : DTE := fun g m Q => ta g m fun es m1 => asDs m1 es fun ds => ∃ ps kvs, ds = [.list ps] ∧ pairsX ps = some kvs ∧ dcRes led (mergeA [] kvs) m1 Q
section
variable {K : PySem.W.Frag}
theorem keyX_eq {d : PyData} {k : Key} (h : keyX d = some k) : d = keyD k := by
  unfold keyX at h
  split at h <;> cases h <;> rfl
theorem pair_dv {F : Hp} {v : V} {d : PyData} {p : Key × PyData} (h : Dv K F v d) (e : pairX d = some p) : ∃ a w, v = .ref a ∧ SqT K F a [kV p.1, w] ∧ Dv K F w p.2 := by
  unfold pairX at e
  split at e
  · rename_i k x
    obtain ⟨k', hk, rfl⟩ := omap e
    have ek := keyX_eq hk
    subst ek
    obtain ⟨a, xs, rfl, hT, hA⟩ := dv_tup h
    cases hA with
    | cons h1 t =>
      cases t with
      | cons h2 t2 =>
        cases t2
        have e1 := dv_key h1
        subst e1
        exact ⟨a, _, rfl, hT, h2⟩
  · cases e
theorem pairs_dv {F : Hp} : ∀ {vs : List V} {ds : List PyData} {kvs : List (Key × PyData)}, DvAll K F vs ds → pairsX ds = some kvs → ∃ (ps : List Addr) (ws : List (Key × V)), vs = ps.map V.ref ∧ Paired (fun p kv => SqT K F p [kV kv.1, kv.2]) ps ws ∧ DvK K F ws kvs
  | _, _, _, .nil, e => by
    cases e
    exact ⟨[], [], rfl, .nil, .nil⟩
  | _, _, kvs, .cons (d := d) (ds := ds) h t, e => by
    obtain ⟨p, hp, e⟩ := obind (show (pairX d).bind (fun p => (pairsX ds).map (p :: ·)) = some kvs from e)
    obtain ⟨kvs', hk, rfl⟩ := omap e
    obtain ⟨a, w, rfl, hT, hw⟩ := pair_dv h hp
    obtain ⟨ps, ws, rfl, hps, hws⟩ := pairs_dv t hk
    exact ⟨a :: ps, (p.1, w) :: ws, rfl, .cons hT hps, .cons ⟨rfl, hw⟩ hws⟩
theorem merge_dv {F : Hp} : ∀ {ws us : List (Key × V)} {kvs ls : List (Key × PyData)}, DvK K F ws kvs → DvK K F us ls → DvK K F (mergeK ws us) (mergeA kvs ls)
  | _, _, _, _, h, .nil => h
  | _, (k1, v) :: _, _, (k2, d) :: _, h, .cons r t => by
    have hk : k1 = k2 := r.1
    subst hk
    have z : DvK K F (mergeK (putK _ k1 v) _) (mergeA (putA _ k1 d) _) := merge_dv (dvk_put (k := k1) r.2 h) t
    exact z
end
section
variable {X : Cx} {e : Expr} {ta : DTA} {p pos : Pos}
theorem d_dictP (led : Bool) (hc : X.calm = true) (hm : X.mg "dict" = none) (ha : DA X [e] ta) (hg : Gl X "dict" := by rfl) (he : starEach [e] X.env = (false, eval e X.env) :: starEach [] X.env := by rfl) (hpl : (backTo pos (starEach [] X.env)).any (·.1) = false := by rfl) :
    DE X (.Call (.Name "dict" p) [e] [] pos) (dDictP led ta) := by
  obtain ⟨_, pa, sa⟩ := ha.ex
  refine ⟨_, pe_callTy (call_dictP hc) hg hm (by decide +kernel) pa (by decide) (by decide) he hpl, fun W S g m σ H Q R r0 sl hq k => ?_⟩
  refine sa W S g m σ H _ _ r0 sl hq fun vs H1 S1 es m1 r1 l1 er q1 => ?_
  obtain ⟨ds, hv, ps, kvs, rfl, hp, q2⟩ := asDs_of r1 q1 er
  obtain ⟨v, rfl, h⟩ := vwAll1 hv
  obtain ⟨a, us, rfl, hH, hA⟩ := vw_lst r1.sub h
  obtain ⟨as, ws, rfl, h1, h2⟩ := pairs_dv hA hp
  refine ⟨a, as, ws, rfl, Or.inl (Or.inl hH), Paired.mapP h1 fun _ _ z => r1.sub.st z, ?_⟩
  intro pp hpp
  have hm := merge_dv (K := X.K) (F := S1.F) (ws := []) (kvs := []) .nil h2
  cases led with
  | false =>
    obtain ⟨r2, l2⟩ := r1.frz (o := .dK (mergeK [] ws)) hpp
    exact k _ _ _ (.dat (dicD (mergeA [] kvs))) m1 r2 (l1.trans l2) (Dv.dic upd_same (dvk_kv (dvk_mono l2.f hm))) q2
  | true =>
    obtain ⟨r2, l2, e2⟩ := r1.own (o := .dK (mergeK [] ws)) (d := dicE (mergeA [] kvs)) hpp fun S' H' l' e' => ⟨_, e', dvk_ev (dvk_mono l'.f hm)⟩
    exact k _ _ _ (.loc m1.length) _ r2 (l1.trans l2) ⟨pp, e2, rfl⟩ q2
end
def pairs1X : List PyData → Option (List (Key × PyData))
  | [.list ps] => pairsX ps
  | _ => none
def pDictP (led : Bool) (es : List E) (m : Mm) : Rs E := xo ((asXs m es).bind pairs1X) fun kvs => pDcEnd led (mergeA [] kvs) m
def xDictP (led : Bool) (xa : XA) (g : Gm) (m : Mm) : Rs E := rb (xa g m) (pDictP led)
theorem i_DictP {Xp : XP} {led : Bool} {xa : XA} : IE (ofE Xp (xDictP led xa)) (dDictP led (ofA Xp xa)) := fun g m Q q => post_rb q fun es m1 q => by
  obtain ⟨kvs, h, q⟩ := post_xo q
  obtain ⟨ds, hd, h⟩ := obind h
  refine asXs_of hd ?_
  unfold pairs1X at h
  split at h
  · refine ⟨_, kvs, rfl, h, ?_⟩
    cases led <;> exact q
  · cases h
end DL
/-! DXf: y = {k: v for ..}; calls that hand on the whole ledger; freezing; the end of a law. -/
namespace DL
open PySem PySem.Spec PyProof.Rows L2

section
variable {X : Cx} {scope : Scope} {tg iter kx vx : Expr} {ifs : List Expr} {ti : DTI} {dg : DTG} {dt : DTT} {tk tv : DTE} {pos : Pos}
theorem ps_setDc {i : Nat} {y : Str} {py : Pos} {own : List (Str × Nat)} {spos : Pos} {wi : TI} {g : TG} {tt : TT} {trk tr : TE} (hc : X.calm = true) (hN : X.N.Nodup) (hy : X.N[i]? = some y) (hyl : X.env.scope.names.lookup y = some .local)
    (hsw : swapsWith (.DictComp kx vx [⟨tg, iter, ifs, 0⟩] scope pos) (some (.Name y py)) spos.line X.env = pure true) (hi : PI X tg iter wi) (ok : BlkOk X.N X.env.scope scope own)
    (hg : ∀ (s : Shared) (H : Hp) (C : Addr) (cl : List (Str × Addr)) (fp : List Addr), PG (X.blk s H scope (compEnvC scope cl C X.env) fp) tg g) (ht : ∀ (s : Shared) (H : Hp) (C : Addr) (cl : List (Str × Addr)) (fp : List Addr), PTs (X.blk s H scope (compEnvC scope cl C X.env) fp) ifs tt)
    (hk : ∀ (s : Shared) (H : Hp) (C : Addr) (cl : List (Str × Addr)) (fp : List Addr), PE (X.blk s H scope (compEnvC scope cl C X.env) fp) kx trk)
    (he : ∀ (s : Shared) (H : Hp) (C : Addr) (cl : List (Str × Addr)) (fp : List Addr), PE (X.blk s H scope (compEnvC scope cl C X.env) fp) vx tr) (hs : ∀ x, foldedSetIterable iter X.env x = pure x := by intro _; rfl) :
    PS X (.Assign [.Name y py] (.DictComp kx vx [⟨tg, iter, ifs, 0⟩] scope pos) spos) (tAsg (tDc wi g tt trk tr (own.map (·.2))) (gName i)) := by
  refine ⟨fun pins s σ H D I h => ?_⟩
  rw [exec_Assign_Name_used _ _ _ _ hsw]
  refine wpAny_bind (wpAny_standAt (wpAny_bind ?_))
  show wpAny _ X.A (do let _ ← comprehension (.DictComp kx vx [⟨tg, iter, ifs, 0⟩] scope pos) scope X.env (firstIterPos [⟨tg, iter, ifs, 0⟩] pos) newDict false (eval iter X.env) (some (assign (.Name y py) X.env))) _ _ s
  have h : tDc wi g tt trk tr (own.map (·.2)) σ H (fun x H1 => gName i x σ H1 D.nx) := h
  refine wpAny_bind (thn (dc_core (Qf := fun _ s' => SP X pins D .next s') hc hN I hi ok hg ht hk he hs h fun L C s' m H' I' q hn f => ?_) fun _ s' hq => wpAny_pure (wpAny_pure hq))
  show wpAny _ _ (assign (.Name y py) X.env (.ref L)) _ _ _
  refine wpAny_assign_Name (store_ok2 (v := V.ref L) I' hN hy (.inl hyl) rfl (fun s2 I2 ⟨a, sb, ha⟩ => ?_) (.inr hyl))
  obtain ⟨f0, f1, f2, f3, f4, f5⟩ := f
  have haC : C ≠ a := by
    rcases ha with z | z
    · rw [z]; exact f1
    · exact fun e => f4 y a z e.symm
  refine ⟨m, hn.sameBut sb haC, fun h3 sb3 => ?_⟩
  exact ⟨_, H', I2.turned (t' := s2.toks) (fun b o hb e => (sb3.2 b hb).trans e) f0 f1 f3 f4 f5, q⟩
theorem swd_true {gs : List Comprehension} {scope : Scope} {pos py : Pos} {y : Str} {l : Nat} {env : Env} (hk : env.scope.kind = .function) (hy : env.scope.names.lookup y = some .local) (hl : (py.line == pos.line) = true)
    (ha : (scope.names.any fun (n, k) => n == y && (k == .local || k == .cell)) = false) : swapsWith (.DictComp kx vx gs scope pos) (some (.Name y py)) l env = pure true := by
  have ky : env.kindOf y = some .local := hy
  have hb : env.blockKind = .function := by unfold Env.blockKind; rw [hk]; rfl
  unfold swapsWith
  simp only [hb, ky, ha, Expr.pos, hl]
  rfl
theorem ds_setDc (led : Bool) (own : List (Str × Nat)) {i : Nat} {y : Str} {py spos : Pos} (hc : X.calm = true) (hN : X.N.Nodup) (hi : DI X tg iter ti) (ok : BlkOk X.N X.env.scope scope own) (hg : CG X scope tg (own.map (·.2)) dg) (ht : CT X scope ifs dt) (hk : CE' X scope kx tk) (he : CE' X scope vx tv)
    (hsw : swapsWith (.DictComp kx vx [⟨tg, iter, ifs, 0⟩] scope pos) (some (.Name y py)) spos.line X.env = pure true) (hy : X.N[i]? = some y := by rfl) (hyl : X.env.scope.names.lookup y = some .local := by rfl)
    (hs : ∀ x, foldedSetIterable iter X.env x = pure x := by intro _; rfl) : DS X (.Assign [.Name y py] (.DictComp kx vx [⟨tg, iter, ifs, 0⟩] scope pos) spos) (dAsg (dDc led ti dg dt tk tv (own.map (·.2))) (dgName i)) := by
  obtain ⟨_, pi, si⟩ := hi.ex
  obtain ⟨_, pg, sg, og⟩ := hg.ex
  obtain ⟨_, pt, st⟩ := ht.ex
  obtain ⟨_, pk, sk⟩ := hk.ex
  obtain ⟨_, pe, se⟩ := he.ex
  refine ⟨_, ps_setDc hc hN hy hyl hsw pi ok pg pt pk pe hs, fun W S g m σ H D R r0 sl hq k => ?_⟩
  exact snd_dc si sg og st sk se W S g m σ H _ _ r0 sl hq fun v H1 S1 e m1 r1 l1 ev q1 => k.nx _ H1 S1 _ m1 r1 l1 ((sl.mono l1).set ev) q1
end

/-! ### a call with the whole ledger; what the callee made besides is dropped -/
def dCallT (k : Nat) (ds : DSp) (ta : DTA) : DTE := fun g m Q => ta g m fun es m1 => es.length = k ∧ (m1.take m1.length).all (inO m1.length) = true ∧ es.all (inE m1.length) = true ∧
    ds es (m1.take m1.length) fun e m2 => onD e fun d => (m2.take m1.length).all (inO m1.length) = true ∧ Q (.dat d) (m2.take m1.length ++ m1.drop m1.length)
section
variable {X : Cx} {k j : Nat} {x : Str} {st : Stmt} {ps ks : List Str} {ds : DSp} {p pos : Pos} {e : Expr} {es : List Expr} {t tk : DTA}
theorem d_calT (C : Cal X.prog X.w X.K X.mg X.base k x st ps ds) (hG : X.A.guards = some []) (hr : Room j X.A) (hkj : k ≤ j) (ha : DA X (e :: es) t) (hg : Gl X x := by rfl) (hdb : (x == ("__debug__" : Str)) = false := by decide)
    (he : starEach (e :: es) X.env = (false, eval e X.env) :: starEach es X.env := by rfl) (hpl : (backTo pos (starEach es X.env)).any (·.1) = false := by rfl) : DE X (.Call (.Name x p) (e :: es) [] pos) (dCallT ps.length ds t) := by
  obtain ⟨f, fd, F, hm, Fu, hb⟩ := C.ex
  obtain ⟨_, pa, sa⟩ := ha.ex
  refine ⟨_, pe_callG F hG (hr.mono hkj) hm Fu.kp hb .nil pass0 pa hg hdb he hpl, fun W S g m σ H Q R r0 s hq kk => ?_⟩
  refine sa W S g m σ H _ _ r0 s hq fun vs H1 S1 es m1 r1 l1 er q1 => ?_
  obtain ⟨hk, hc, he, hd⟩ := q1
  show toSp X.K ps.length ds (vs ++ []) H1 R _
  rw [List.append_nil]
  exact toSp_of r1 er hk (Nat.le_refl _) hc he hd fun v H2 S2 e m2 r2 l2 => kk v H2 S2 e m2 r2 (l1.trans l2)
end
def kCallT (k : Nat) (f : XF) (es : List E) (m1 : Mm) : Rs E := kCallN k m1.length f es m1
def xCallT (k : Nat) (f : XF) (xa : XA) (g : Gm) (m : Mm) : Rs E := rb (xa g m) (kCallT k f)
section
variable {Xp : XP} {xi : XI} {G : XG} {s s1 s2 : XS} {t : XT} {x x1 x2 x3 : XE} {xa xk : XA} {f : XF}
theorem i_CallT {k : Nat} : IE (ofE Xp (xCallT k f xa)) (dCallT k (ofF Xp f) (ofA Xp xa)) := fun g m Q q => post_rb q fun es m1 q => let ⟨a, _, b, c, d⟩ := kCallN_of q; ⟨a, b, c, d⟩
theorem i_CallN0 {k n : Nat} : IE (ofE Xp (xCallN k n f xNil)) (dCallN k n (ofF Xp f) dNil) := fun g m Q q => kCallN_of (es := []) q
theorem i_CallK0 {G : {α : Type} → List α → List α → List α} {k n : Nat} : IE (ofE Xp (xCallK G k n f xNil xk)) (dCallK G k n (ofF Xp f) dNil (ofA Xp xk)) := fun g m Q q => post_rb (x := xk g m) q fun fs m2 q => kCallN_of q
theorem i_BOp {y : Y2} {f : F2} (h : Y2Ok y f) : IT (ofT Xp (xB (xOp y x1 x2))) (dB (dOp f (ofE Xp x1) (ofE Xp x2))) := fun g m Q q => i_Op h g m _ (post_rb (x := xOp y x1 x2 g m) q fun a m1 q => gD_of q fun d q => gB_of q fun b q => q)
theorem i_BChain {y y' : Y2} {f f' : F2} (h : Y2Ok y f) (h' : Y2Ok y' f') : IT (ofT Xp (xB (xChain y y' x1 x2 x3))) (dB (dChain f f' (ofE Xp x1) (ofE Xp x2) (ofE Xp x3))) := fun g m Q q => i_Chain h h' g m _ (post_rb (x := xChain y y' x1 x2 x3 g m) q fun a m1 q => gD_of q fun d q => gB_of q fun b q => q)
theorem ig_Two {i j : Nat} : IG (ofG Xp (xgTup 2 (xgCons (xgName i) (xgCons (xgName j) xgNil)))) (dgTup 2 (dgCons (dgName i) (dgCons (dgName j) dgNil))) := fun e g m Q q => by
  have q' : (xo (tupX e) (kgTup 2 (xgCons (xgName i) (xgCons (xgName j) xgNil)) g m)).post Q Xp := q
  obtain ⟨ds, h, q⟩ := post_xo q'
  obtain ⟨h2, q⟩ := post_xg q
  have hl := of_decide_eq_true h2
  refine tupX_of h ⟨hl, ?_⟩
  match ds, hl, q with
  | [a, b], _, q => exact ⟨rfl, q⟩
theorem i_Asg1 {i : Nat} : IS (ofS Xp (xAsg x (xgName i))) (dAsg (ofE Xp x) (dgName i)) := fun D g m q => post_rb (x := x g m) q fun a m1 q => q
theorem i_AsgLc {vs : List Nat} {i : Nat} : IS (ofS Xp (xAsg (xLc xi G t x vs) (xgName i))) (dAsg (dLc (ofI Xp xi) (ofG Xp G) (ofT Xp t) (ofE Xp x) vs) (dgName i)) := fun D g m q => i_Lc g m _ (post_rb (x := xLc xi G t x vs g m) q fun a m1 q => q)
theorem i_AsgDc {led : Bool} {vs : List Nat} {i : Nat} : IS (ofS Xp (xAsg (xDc led xi G t x1 x2 vs) (xgName i))) (dAsg (dDc led (ofI Xp xi) (ofG Xp G) (ofT Xp t) (ofE Xp x1) (ofE Xp x2) vs) (dgName i)) := fun D g m q => i_Dc g m _ (post_rb (x := xDc led xi G t x1 x2 vs g m) q fun a m1 q => q)
/-- a list of the ledger will not change any more -/
def xFrz (k : Nat) (s : XS) (g : Gm) (m : Mm) : Rs Fl := xo ((locL m (.loc k)).bind fun p => datsX p.2) fun ds => s (frG k (.list ds) g) ((m.set k .gone).map (frO k (.list ds)))
theorem i_Frz {k : Nat} : IS (ofS Xp (xFrz k s)) (dFrz k (ofS Xp s)) := fun D g m q => by
  obtain ⟨ds, h, q⟩ := post_xo q
  obtain ⟨p, hp, hd⟩ := obind h
  exact locL_of (k := p.1) (es := p.2) hp (allD_datsX hd q)
end
/-- nothing is raised -/
def xp0 : XP := fun _ _ => False
theorem law_to {x : XF} (main : ∀ ns : List Int, ns.length ≤ 63 → ∃ m, x [.scr ns] [] = .ok (.dat (.bool true)) m) {es : List E} {m : Mm} {dQ : E → Mm → Prop} (h : spLawD es m dQ) : ofF xp0 x es m dQ := by
  obtain ⟨ns, rfl, rfl, hl, q⟩ := h
  obtain ⟨m', e⟩ := main ns hl
  show (x [.scr ns] []).post dQ xp0
  rw [e]
  exact q m'
end DL
/-! DXg: lemmas for evaluation by simp. -/
namespace DL
open PySem PySem.Spec PyProof.Rows L2

section
variable {α β : Type} {m : Mm} {k : Nat} {i : Int} {a e : E} {y d : PyData} {lo hi : Option Int} {es : List E} {ds : List PyData} {kvs : List (Key × E)} {ky : Key} {f : α → Rs β}
theorem xg_dec {p : Prop} [Decidable p] {k : Rs α} (h : p) : xg (decide p) k = k := by rw [decide_eq_true h]; rfl
theorem og_dec {p : Prop} [Decidable p] {a : α} (h : p) : og (decide p) a = some a := by rw [decide_eq_true h]; rfl
theorem og_dec2 {p q : Prop} [Decidable p] [Decidable q] {a : α} (h : p) (h' : q) : og (decide p && decide q) a = some a := by rw [decide_eq_true h, decide_eq_true h']; rfl
theorem szl : (sizeLine : Nat) = 16777216 := rfl
theorem asX_l : asX m (.loc k) = match m[k]? with | some (.lst es) => (datsX es).map PyData.list | _ => none := rfl
theorem ixX_l : ixX m (.loc k) y = match m[k]? with
    | some (.lst es) => (intX y).bind fun i => atI es i
    | some (.dic kvs) => (keyX y).bind fun k => lookD kvs k
    | _ => none := rfl
theorem slX_l : slX m (.loc k) lo hi = match m[k]? with | some (.lst es) => (datsX es).map fun ds => E.dat (.list (cutD ds lo hi)) | _ => none := rfl
theorem locL_l : locL m (.loc k) = match m[k]? with | some (.lst es) => some (k, es) | _ => none := rfl
theorem locD_l : locD m (.loc k) = match m[k]? with | some (.dic es) => some (k, es) | _ => none := rfl
theorem setX_l : setX m (.loc k) y e = match m[k]? with
    | some (.lst es) => (intX y).bind fun i => (ixN es.length i).map fun j => m.set k (.lst (es.set j e))
    | some (.dic kvs) => (keyX y).bind fun ky => og (decide (kvs.length < sizeLine)) (m.set k (.dic (putE kvs ky e)))
    | _ => none := rfl
theorem isDX_l : isDX m (.loc k) = match m[k]? with | some (.dic _) => true | _ => false := rfl
theorem isDX_d {kvs : List (PyData × PyData)} : isDX m (.dat (.dict kvs)) = true := rfl
theorem dicX_l : dicX m (.loc k) ky = match m[k]? with | some (.dic kvs) => some (lookD kvs ky) | _ => none := rfl
theorem keysX_l : keysX m [.loc k] = match m[k]? with | some (.dic kvs) => some (kvs.map fun p : Key × E => p.1) | _ => none := rfl
theorem lstX_l : lstX m (.loc k) = match m[k]? with | some (.lst es) => datsX es | _ => none := by
  unfold lstX
  rw [asX_l]
  split
  · cases datsX _ <;> rfl
  · rfl
theorem isLX_l : isLX m (.loc k) = match m[k]? with | some (.lst _) => true | _ => false := by
  unfold isLX
  rw [locL_l]
  split <;> rfl
theorem isLDX_l : isLDX m (.loc k) = match m[k]? with | some (.dic _) => true | _ => false := by
  unfold isLDX
  rw [locD_l]
  split <;> rfl
theorem isLst_l : isLst m (.loc k) = match m[k]? with | some (.lst es) => (datsX es).isSome | _ => false := by
  unfold isLst
  rw [lstX_l]
  split <;> rfl
theorem intX_i : intX (.int i) = some i := rfl
theorem keyX_i : keyX (.int i) = some (.inl i) := rfl
theorem keyX_s {s : Str} : keyX (.str s) = some (.inr s) := rfl
theorem atI_0 {x : α} {l : List α} : atI (x :: l) 0 = some x := by
  unfold atI ixN
  rw [if_pos (Int.le_refl 0), if_pos (by rw [List.length_cons]; omega)]
  rfl
theorem atI_s {x : α} {l : List α} {n : Int} (h : 0 < n) : atI (x :: l) n = atI l (n - 1) := by
  unfold atI ixN
  have h0 : (0 : Int) ≤ n := by omega
  have h1 : (0 : Int) ≤ n - 1 := by omega
  have hl : ((x :: l).length : Int) = (l.length : Int) + 1 := by rw [List.length_cons]; omega
  rw [if_pos h0, if_pos h1, hl]
  by_cases c : n < (l.length : Int) + 1
  · have c2 : n - 1 < (l.length : Int) := by omega
    rw [if_pos c, if_pos c2]
    have e : n.toNat = (n - 1).toNat + 1 := by omega
    show (x :: l)[n.toNat]? = l[(n - 1).toNat]?
    rw [e, List.getElem?_cons_succ]
  · have c2 : ¬ n - 1 < (l.length : Int) := by omega
    rw [if_neg c, if_neg c2]
    rfl
theorem atI_1 {x y : α} {l : List α} : atI (x :: y :: l) 1 = some y := by rw [atI_s (by decide)]; exact atI_0
theorem atI_2 {x y z : α} {l : List α} : atI (x :: y :: z :: l) 2 = some z := by rw [atI_s (by decide)]; exact atI_1
theorem atI_3 {x y z w : α} {l : List α} : atI (x :: y :: z :: w :: l) 3 = some w := by rw [atI_s (by decide)]; exact atI_2
theorem ixN_32 : ixN 3 2 = some 2 := rfl
theorem ixN_31 : ixN 3 1 = some 1 := rfl
theorem ixN_30 : ixN 3 0 = some 0 := rfl
theorem dapp {d : PyData} : ds.map E.dat ++ [.dat d] = (ds ++ [d]).map E.dat := by rw [List.map_append]; rfl
theorem dapps {ds' : List PyData} : ds.map E.dat ++ ds'.map E.dat = (ds ++ ds').map E.dat := by rw [List.map_append]
theorem yEqN_nil {neg : Bool} (h : SeqAt.shaped (.list ds) = true) : yEqN neg (.list ds) (.list []) = some (.bool (ng neg ds.isEmpty)) := by rw [yEqN_of h shaped_nil, eqv_nil]
theorem yEqN_cells {neg : Bool} {c : List Int} : yEqN neg (.list (c.map .int)) (.list []) = some (.bool (ng neg c.isEmpty)) := by rw [yEqN_nil (shaped_ints c), List.isEmpty_map]
theorem pop_snd {x : E} : (es ++ [x])[(es ++ [x]).length - 1]? = some x := by
  rw [List.length_append, List.length_singleton, Nat.add_sub_cancel, List.getElem?_append_right (Nat.le_refl _), Nat.sub_self]
  rfl
end
theorem yMul_int {i j : Int} (h : (-18446744073709551616 < i ∧ i < 18446744073709551616) ∨ (-18446744073709551616 < j ∧ j < 18446744073709551616)) : yMul (.int i) (.int j) = some (.int (i * j)) := og_dec (p := CMul i j) h
theorem yDiv_int {i j : Int} (h : 0 < j ∧ j < 1073741824) : yDiv (.int i) (.int j) = some (.int (i / j)) := og_dec (p := CDiv i j) h
theorem yMod_int {i j : Int} (h : 0 < j) : yMod (.int i) (.int j) = some (.int (i % j)) := og_dec h
theorem yPow_int {i j : Int} (h : 0 ≤ j ∧ j ≤ 1000000 ∧ -18446744073709551616 < i ∧ i < 18446744073709551616) : yPow (.int i) (.int j) = some (.int (i ^ j.toNat)) := og_dec (p := CPow i j) ⟨h.1, h.2.1, by have e : (2 : Nat) ^ 64 = 18446744073709551616 := rfl; omega⟩
theorem yMul_list {xs : List PyData} {n : Int} (h : -9223372036854775808 ≤ n ∧ n < 9223372036854775808) (h' : xs.length * n.toNat ≤ 16777216) : yMul (.list xs) (.int n) = some (.list (List.replicate n.toNat xs).flatten) := og_dec2 h h'
theorem yMul_str {x : Str} {n : Int} (h : 0 ≤ n ∧ n ≤ 1000000) (h' : x.length * n.toNat ≤ 16777216) : yMul (.str x) (.int n) = some (.str (repS x n)) := og_dec2 h h'
theorem yEqN_nn {neg : Bool} : yEqN neg (.list []) (.list []) = some (.bool (ng neg true)) := by rw [yEqN_nil shaped_nil]; rfl
theorem deck_pop {c : List Int} {x : Int} : (((c ++ [x]).map PyData.int).map E.dat)[(((c ++ [x]).map PyData.int).map E.dat).length - 1]? = some (.dat (.int x)) := by
  rw [List.map_append, List.map_append]
  exact pop_snd
theorem deck_drop {c : List Int} {x : Int} : (((c ++ [x]).map PyData.int).map E.dat).dropLast = (c.map PyData.int).map E.dat := by
  rw [List.map_append, List.map_append]
  exact List.dropLast_concat
theorem deck_app {c : List Int} {x : Int} : (c.map PyData.int ++ [PyData.int x]) = (c ++ [x]).map PyData.int := by
  rw [List.map_append]
  rfl
theorem emp_app {α : Type} {c : List α} {x : α} : (c ++ [x]).isEmpty = false := by cases c <;> rfl
/-- the deck's cells as data -/
theorem cells_dat (c : List Int) : (c.map fun n => E.dat (.int n)) = (c.map PyData.int).map .dat := by rw [List.map_map]; rfl
def deckX (c : List Int) (i j : Int) : Mm := [.lst ((c.map PyData.int).map .dat), .lst [.loc 0, .dat (.int i), .dat (.int j)]]
theorem deckX_eq (c : List Int) (i j : Int) : deckX c i j = deckM c i j := by
  unfold deckX deckM
  rw [cells_dat]
end DL
/-! DXh: loops and comprehensions met in plain goals. -/
namespace DL
open PySem PySem.Spec PyProof.Rows L2

section
variable {ws : List Nat} {n : Option Nat} {dg : XG} {tb : XS} {items : List PyData} {g : Gm} {m : Mm} {dt : XT} {te tk tv : XE}
theorem drop_at {α : Type} {l : List α} {i : Nat} {x : α} (h : l[i]? = some x) : l.drop i = x :: l.drop (i + 1) := by
  have hi : i < l.length := (List.getElem?_eq_some_iff.mp h).1
  rw [List.drop_eq_getElem_cons hi]
  congr 1
  exact (List.getElem?_eq_some_iff.mp h).2
/-- a loop by its invariant; every turn goes on -/
theorem forL_inv (I : Nat → Gm → Mm → Prop) (h0 : I 0 g m) (hs : ∀ i x g m, items[i]? = some x → I i g m → ∃ g' m', rb (dg (.dat x) g m) tb = .ok (.nx g') m' ∧ I (i + 1) (wipeG g' ws) (gcM n (wipeG g' ws) m')) :
    ∃ g' m', forL ws n dg tb items g m = .ok (.nx g') m' ∧ I items.length g' m' := by
  have aux : ∀ k i g m, i + k = items.length → I i g m → ∃ g' m', forL ws n dg tb (items.drop i) g m = .ok (.nx g') m' ∧ I items.length g' m' := by
    intro k
    induction k with
    | zero =>
      intro i g m e hI
      have : i = items.length := by omega
      subst this
      exact ⟨g, m, by rw [List.drop_length]; rfl, hI⟩
    | succ k ih =>
      intro i g m e hI
      have hx : items[i]? = some items[i] := List.getElem?_eq_getElem (by omega)
      obtain ⟨g1, m1, e1, h1⟩ := hs i _ g m hx hI
      obtain ⟨g2, m2, e2, h2⟩ := ih (i + 1) _ _ (by omega) h1
      exact ⟨g2, m2, by rw [drop_at hx, forL_cons, e1, fb_nx]; exact e2, h2⟩
  exact aux items.length 0 g m (by omega) h0
/-- .. or leaves the def, or the loop -/
theorem forL_or (I : Nat → Gm → Mm → Prop) (R : Rs Fl → Prop) (h0 : I 0 g m) (hs : ∀ i x g m, items[i]? = some x → I i g m → (∃ g' m', rb (dg (.dat x) g m) tb = .ok (.nx g') m' ∧ I (i + 1) (wipeG g' ws) (gcM n (wipeG g' ws) m')) ∨ ∃ e m', rb (dg (.dat x) g m) tb = .ok (.rt e) m' ∧ R (.ok (.rt e) m'))
    (he : ∀ g m, I items.length g m → R (.ok (.nx g) m)) : R (forL ws n dg tb items g m) := by
  have aux : ∀ k i g m, i + k = items.length → I i g m → R (forL ws n dg tb (items.drop i) g m) := by
    intro k
    induction k with
    | zero =>
      intro i g m e hI
      have : i = items.length := by omega
      subst this
      rw [List.drop_length]
      exact he g m hI
    | succ k ih =>
      intro i g m e hI
      have hx : items[i]? = some items[i] := List.getElem?_eq_getElem (by omega)
      rcases hs i _ g m hx hI with ⟨g1, m1, e1, h1⟩ | ⟨v, m1, e1, h1⟩
      · rw [drop_at hx, forL_cons, e1, fb_nx]
        exact ih (i + 1) _ _ (by omega) h1
      · rw [drop_at hx, forL_cons, e1, fb_rt]
        exact h1
  exact aux items.length 0 g m (by omega) h0
/-- a fold: the state by what is carried -/
theorem forL_fold {σ : Type} (st : σ → Gm) (mm : σ → Mm) (step : σ → PyData → σ) (P : Nat → σ → Prop) {s : σ} (h0 : P 0 s) (hs : ∀ i x s, items[i]? = some x → P i s → P (i + 1) (step s x) ∧ ∃ g' m', rb (dg (.dat x) (st s) (mm s)) tb = .ok (.nx g') m' ∧ wipeG g' ws = st (step s x) ∧ gcM n (wipeG g' ws) m' = mm (step s x)) :
    forL ws n dg tb items (st s) (mm s) = .ok (.nx (st (items.foldl step s))) (mm (items.foldl step s)) ∧ P items.length (items.foldl step s) := by
  have aux : ∀ k i s, i + k = items.length → P i s → forL ws n dg tb (items.drop i) (st s) (mm s) = .ok (.nx (st ((items.drop i).foldl step s))) (mm ((items.drop i).foldl step s)) ∧ P items.length ((items.drop i).foldl step s) := by
    intro k
    induction k with
    | zero =>
      intro i s e hI
      have : i = items.length := by omega
      subst this
      rw [List.drop_length]
      exact ⟨rfl, hI⟩
    | succ k ih =>
      intro i s e hI
      have hx : items[i]? = some items[i] := List.getElem?_eq_getElem (by omega)
      obtain ⟨h1, g1, m1, e1, e2, e3⟩ := hs i _ s hx hI
      have := ih (i + 1) _ (by omega) h1
      rw [drop_at hx, forL_cons, e1, fb_nx]
      show forL ws n dg tb (items.drop (i + 1)) (wipeG g1 ws) (gcM n (wipeG g1 ws) m1) = _ ∧ _
      rw [e2] at e3 ⊢
      rw [e3]
      exact this
  exact aux items.length 0 s (by omega) h0
/-- a comprehension that changes nothing -/
theorem lcL_filterMap {f : PyData → Option PyData} (h : ∀ x ∈ items, ∀ k, rb (dg (.dat x) g m) (kLc1 dt te k) = match f x with | some v => rb (k m) (fun ds m' => .ok (v :: ds) m') | none => k m) : lcL dg dt te g items m = .ok (items.filterMap f) m := by
  induction items with
  | nil => rfl
  | cons x items ih =>
    rw [lcL_cons, h x (List.mem_cons_self ..), List.filterMap_cons]
    have ih' := ih fun y hy => h y (List.mem_cons_of_mem _ hy)
    cases f x with
    | none => exact ih'
    | some v =>
      show rb (lcL dg dt te g items m) _ = _
      rw [ih', rb_ok]
theorem lcL_map {f : PyData → PyData} (h : ∀ x ∈ items, ∀ k, rb (dg (.dat x) g m) (kLc1 dt te k) = rb (k m) (fun ds m' => .ok (f x :: ds) m')) : lcL dg dt te g items m = .ok (items.map f) m := by
  have := lcL_filterMap (dg := dg) (dt := dt) (te := te) (g := g) (m := m) (f := fun x => some (f x)) h
  rw [this]
  show Rs.ok (List.filterMap (some ∘ f) items) m = _
  rw [List.filterMap_eq_map]
theorem lcL_filter {p : PyData → Bool} (h : ∀ x ∈ items, ∀ k, rb (dg (.dat x) g m) (kLc1 dt te k) = match p x with | true => rb (k m) (fun ds m' => .ok (x :: ds) m') | false => k m) : lcL dg dt te g items m = .ok (items.filter p) m := by
  have := lcL_filterMap (dg := dg) (dt := dt) (te := te) (g := g) (m := m) (items := items) (f := fun x => if p x then some x else none) fun x hx k => by
    rw [h x hx k]
    cases p x <;> rfl
  rw [this]
  congr 1
  clear h this
  induction items with
  | nil => rfl
  | cons x l ih =>
    rw [List.filterMap_cons, List.filter_cons, ← ih]
    cases p x <;> rfl
/-- a comprehension that changes the ledger -/
theorem lcL_inv (I : Nat → List PyData → Mm → Prop) (h0 : I 0 [] m) (hs : ∀ i x acc m, items[i]? = some x → I i acc m →
      (∃ v m', (∀ k, rb (dg (.dat x) g m) (kLc1 dt te k) = rb (k m') (fun ds m' => .ok (v :: ds) m')) ∧ I (i + 1) (acc ++ [v]) m') ∨ ∃ m', (∀ k, rb (dg (.dat x) g m) (kLc1 dt te k) = k m') ∧ I (i + 1) acc m') :
    ∃ ds m', lcL dg dt te g items m = .ok ds m' ∧ I items.length ds m' := by
  have aux : ∀ k i acc m, i + k = items.length → I i acc m → ∃ ds m', lcL dg dt te g (items.drop i) m = .ok ds m' ∧ I items.length (acc ++ ds) m' := by
    intro k
    induction k with
    | zero =>
      intro i acc m e hI
      have : i = items.length := by omega
      subst this
      exact ⟨[], m, by rw [List.drop_length]; rfl, by rw [List.append_nil]; exact hI⟩
    | succ k ih =>
      intro i acc m e hI
      have hx : items[i]? = some items[i] := List.getElem?_eq_getElem (by omega)
      rcases hs i _ acc m hx hI with ⟨v, m1, e1, h1⟩ | ⟨m1, e1, h1⟩
      · obtain ⟨ds, m2, e2, h2⟩ := ih (i + 1) _ _ (by omega) h1
        refine ⟨v :: ds, m2, ?_, by rw [List.append_assoc] at h2; exact h2⟩
        rw [drop_at hx, lcL_cons, e1, e2, rb_ok]
      · obtain ⟨ds, m2, e2, h2⟩ := ih (i + 1) _ _ (by omega) h1
        exact ⟨ds, m2, by rw [drop_at hx, lcL_cons, e1, e2], h2⟩
  obtain ⟨ds, m', e, h⟩ := aux items.length 0 [] m (by omega) h0
  exact ⟨ds, m', e, h⟩
/-- a dict comprehension that changes nothing -/
theorem dcL_fold {f : PyData → Option (Key × PyData)} (h : ∀ x ∈ items, ∀ k acc, rb (dg (.dat x) g m) (kDc1 dt tk tv k acc) = match f x with | some p => k (putA acc p.1 p.2) m | none => k acc m) (acc : List (Key × PyData)) :
    dcL dg dt tk tv g items acc m = .ok (mergeA acc (items.filterMap f)) m := by
  induction items generalizing acc with
  | nil => rfl
  | cons x items ih =>
    rw [dcL_cons, h x (List.mem_cons_self ..), List.filterMap_cons]
    have ih' := ih fun y hy => h y (List.mem_cons_of_mem _ hy)
    cases f x with
    | none => exact ih' acc
    | some p => exact ih' _
end
/-- what is put in with keys of its own -/
theorem putA_new {α : Type} {kvs : List (Key × α)} {k : Key} {a : α} (h : k ∉ kvs.map (·.1)) : putA kvs k a = kvs ++ [(k, a)] := by
  unfold putA
  rw [if_neg]
  rw [List.any_eq_true]
  rintro ⟨p, hp, e⟩
  exact h (List.mem_map.mpr ⟨p, hp, of_decide_eq_true e⟩)
theorem mergeA_new {α : Type} : ∀ {more kvs : List (Key × α)}, ((kvs ++ more).map (·.1)).Nodup → mergeA kvs more = kvs ++ more
  | [], kvs, _ => by rw [List.append_nil]; rfl
  | (k, a) :: more, kvs, h => by
    show mergeA (putA kvs k a) more = _
    have hk : k ∉ kvs.map (·.1) := by
      rw [List.map_append, List.map_cons, List.nodup_append] at h
      exact fun z => h.2.2 k z k List.mem_cons_self rfl
    rw [putA_new hk, mergeA_new (by rw [List.append_assoc]; exact h), List.append_assoc]
    rfl
/-- a call of a def of data -/
theorem call0 {k : Nat} {f : XF} {es : List E} {ds : List PyData} {d : PyData} {m m' : Mm} (he : es = ds.map .dat) (hk : es.length = k) (h : f es [] = .ok (.dat d) m') : kCallN k 0 f es m = .ok (.dat d) m := by
  subst he
  rw [List.length_map] at hk
  exact kCallN_pure hk h
/-- a call of a def of the deck: the two things at the ledger's head -/
theorem deckX_in (c : List Int) (i j : Int) : (deckX c i j).all (inO 2) = true := by rw [deckX_eq]; exact deck_in c i j
theorem call2 {k : Nat} {f : XF} {es : List E} {d : PyData} {c c' : List Int} {i j i' j' : Int} {rest more : Mm} (hk : es.length = k) (he : es.all (inE 2) = true) (h : f es (deckX c i j) = .ok (.dat d) (deckX c' i' j' ++ more)) :
    kCallN k 2 f es (deckX c i j ++ rest) = .ok (.dat d) (deckX c' i' j' ++ rest) := by
  have e1 : (deckX c i j ++ rest).take 2 = deckX c i j := rfl
  have e2 : (deckX c i j ++ rest).drop 2 = rest := rfl
  have e3 : (deckX c' i' j' ++ more).take 2 = deckX c' i' j' := rfl
  have c1 : (decide (es.length = k) && decide (2 ≤ (deckX c i j ++ rest).length) && ((deckX c i j ++ rest).take 2).all (inO 2) && es.all (inE 2)) = true := by
    rw [e1, deckX_in, he, hk, decide_eq_true rfl, decide_eq_true (by rw [List.length_append]; exact Nat.le_add_right 2 _)]
    rfl
  unfold kCallN
  rw [c1, xg_true, e1, h, rb_ok]
  unfold kCallB
  rw [gD_dat, e3, deckX_in, xg_true, e2]
theorem ins_none_str  : instD .none "str" = false := rfl
theorem ins_none_int  : instD .none "int" = false := rfl
theorem ins_none_bool  : instD .none "bool" = false := rfl
theorem ins_none_tuple  : instD .none "tuple" = false := rfl
theorem ins_none_list  : instD .none "list" = false := rfl
theorem ins_none_dict  : instD .none "dict" = false := rfl
theorem ins_bool_str {b : Bool} : instD (.bool b) "str" = false := rfl
theorem ins_bool_int {b : Bool} : instD (.bool b) "int" = true := rfl
theorem ins_bool_bool {b : Bool} : instD (.bool b) "bool" = true := rfl
theorem ins_bool_tuple {b : Bool} : instD (.bool b) "tuple" = false := rfl
theorem ins_bool_list {b : Bool} : instD (.bool b) "list" = false := rfl
theorem ins_bool_dict {b : Bool} : instD (.bool b) "dict" = false := rfl
theorem ins_int_str {i : Int} : instD (.int i) "str" = false := rfl
theorem ins_int_int {i : Int} : instD (.int i) "int" = true := rfl
theorem ins_int_bool {i : Int} : instD (.int i) "bool" = false := rfl
theorem ins_int_tuple {i : Int} : instD (.int i) "tuple" = false := rfl
theorem ins_int_list {i : Int} : instD (.int i) "list" = false := rfl
theorem ins_int_dict {i : Int} : instD (.int i) "dict" = false := rfl
theorem ins_str_str {x : Str} : instD (.str x) "str" = true := rfl
theorem ins_str_int {x : Str} : instD (.str x) "int" = false := rfl
theorem ins_str_bool {x : Str} : instD (.str x) "bool" = false := rfl
theorem ins_str_tuple {x : Str} : instD (.str x) "tuple" = false := rfl
theorem ins_str_list {x : Str} : instD (.str x) "list" = false := rfl
theorem ins_str_dict {x : Str} : instD (.str x) "dict" = false := rfl
theorem ins_list_str {ds : List PyData} : instD (.list ds) "str" = false := rfl
theorem ins_list_int {ds : List PyData} : instD (.list ds) "int" = false := rfl
theorem ins_list_bool {ds : List PyData} : instD (.list ds) "bool" = false := rfl
theorem ins_list_tuple {ds : List PyData} : instD (.list ds) "tuple" = false := rfl
theorem ins_list_list {ds : List PyData} : instD (.list ds) "list" = true := rfl
theorem ins_list_dict {ds : List PyData} : instD (.list ds) "dict" = false := rfl
theorem ins_tuple_str {ds : List PyData} : instD (.tuple ds) "str" = false := rfl
theorem ins_tuple_int {ds : List PyData} : instD (.tuple ds) "int" = false := rfl
theorem ins_tuple_bool {ds : List PyData} : instD (.tuple ds) "bool" = false := rfl
theorem ins_tuple_tuple {ds : List PyData} : instD (.tuple ds) "tuple" = true := rfl
theorem ins_tuple_list {ds : List PyData} : instD (.tuple ds) "list" = false := rfl
theorem ins_tuple_dict {ds : List PyData} : instD (.tuple ds) "dict" = false := rfl
theorem ins_dict_str {ps : List (PyData × PyData)} : instD (.dict ps) "str" = false := rfl
theorem ins_dict_int {ps : List (PyData × PyData)} : instD (.dict ps) "int" = false := rfl
theorem ins_dict_bool {ps : List (PyData × PyData)} : instD (.dict ps) "bool" = false := rfl
theorem ins_dict_tuple {ps : List (PyData × PyData)} : instD (.dict ps) "tuple" = false := rfl
theorem ins_dict_list {ps : List (PyData × PyData)} : instD (.dict ps) "list" = false := rfl
theorem ins_dict_dict {ps : List (PyData × PyData)} : instD (.dict ps) "dict" = true := rfl
theorem isn_none : isNon .none = true := rfl
theorem isn_bool {b : Bool} : isNon (.bool b) = false := rfl
theorem isn_int {i : Int} : isNon (.int i) = false := rfl
theorem isn_str {x : Str} : isNon (.str x) = false := rfl
theorem isn_list {ds : List PyData} : isNon (.list ds) = false := rfl
theorem isn_tuple {ds : List PyData} : isNon (.tuple ds) = false := rfl
section
variable {ws : List Nat} {n : Option Nat} {dg : XG} {tb : XS} {g : Gm} {m : Mm} {dt : XT} {te tk tv : XE}
/-- a fold over typed items -/
theorem forL_foldT {σ τ : Type} (enc : τ → PyData) (l : List τ) (st : σ → Gm) (mm : σ → Mm) (step : σ → τ → σ) (P : Nat → σ → Prop) {s : σ} (h0 : P 0 s) (hs : ∀ i x s, l[i]? = some x → P i s → P (i + 1) (step s x) ∧ ∃ g' m', rb (dg (.dat (enc x)) (st s) (mm s)) tb = .ok (.nx g') m' ∧ wipeG g' ws = st (step s x) ∧ gcM n (wipeG g' ws) m' = mm (step s x)) :
    forL ws n dg tb (l.map enc) (st s) (mm s) = .ok (.nx (st (l.foldl step s))) (mm (l.foldl step s)) ∧ P l.length (l.foldl step s) := by
  have aux : ∀ k i s, i + k = l.length → P i s → forL ws n dg tb ((l.drop i).map enc) (st s) (mm s) = .ok (.nx (st ((l.drop i).foldl step s))) (mm ((l.drop i).foldl step s)) ∧ P l.length ((l.drop i).foldl step s) := by
    intro k
    induction k with
    | zero =>
      intro i s e hI
      have : i = l.length := by omega
      subst this
      rw [List.drop_length]
      exact ⟨rfl, hI⟩
    | succ k ih =>
      intro i s e hI
      have hx : l[i]? = some l[i] := List.getElem?_eq_getElem (by omega)
      obtain ⟨h1, g1, m1, e1, e2, e3⟩ := hs i _ s hx hI
      have := ih (i + 1) _ (by omega) h1
      rw [drop_at hx, List.map_cons, forL_cons, e1, fb_nx]
      show forL ws n dg tb ((l.drop (i + 1)).map enc) (wipeG g1 ws) (gcM n (wipeG g1 ws) m1) = _ ∧ _
      rw [e2] at e3 ⊢
      rw [e3]
      exact this
  exact aux l.length 0 s (by omega) h0
theorem lcL_mapT {τ : Type} (enc : τ → PyData) (l : List τ) {f : τ → PyData} (h : ∀ x ∈ l, ∀ k, rb (dg (.dat (enc x)) g m) (kLc1 dt te k) = rb (k m) (fun ds m' => .ok (f x :: ds) m')) : lcL dg dt te g (l.map enc) m = .ok (l.map f) m := by
  induction l with
  | nil => rfl
  | cons x l ih =>
    rw [List.map_cons, lcL_cons, h x (List.mem_cons_self ..), ih fun y hy => h y (List.mem_cons_of_mem _ hy), rb_ok]
    rfl
theorem dcL_foldT {τ : Type} (enc : τ → PyData) (l : List τ) {f : τ → Key × PyData} (h : ∀ x ∈ l, ∀ k acc, rb (dg (.dat (enc x)) g m) (kDc1 dt tk tv k acc) = k (putA acc (f x).1 (f x).2) m) (acc : List (Key × PyData)) :
    dcL dg dt tk tv g (l.map enc) acc m = .ok (mergeA acc (l.map f)) m := by
  induction l generalizing acc with
  | nil => rfl
  | cons x l ih =>
    rw [List.map_cons, dcL_cons, h x (List.mem_cons_self ..)]
    exact ih (fun y hy => h y (List.mem_cons_of_mem _ hy)) _
end
theorem gK_01 {α : Type} {a : α} : gK 0 1 [0] [] [a] = [a] := rfl
theorem gK_02 {α : Type} {a b : α} : gK 0 2 [0, 1] [] [a, b] = [a, b] := rfl
theorem gK_02s {α : Type} {a b : α} : gK 0 2 [1, 0] [] [a, b] = [b, a] := rfl
theorem gK_11 {α : Type} {a b : α} : gK 1 1 [0, 1] [a] [b] = [a, b] := rfl
theorem gK_03a {α : Type} {a b c : α} : gK 0 3 [0, 1, 2] [] [a, b, c] = [a, b, c] := rfl
theorem gK_03b {α : Type} {a b c : α} : gK 0 3 [0, 2, 1] [] [a, b, c] = [a, c, b] := rfl
theorem gK_03c {α : Type} {a b c : α} : gK 0 3 [1, 0, 2] [] [a, b, c] = [b, a, c] := rfl
theorem gK_03d {α : Type} {a b c : α} : gK 0 3 [1, 2, 0] [] [a, b, c] = [b, c, a] := rfl
theorem gK_03e {α : Type} {a b c : α} : gK 0 3 [2, 0, 1] [] [a, b, c] = [c, a, b] := rfl
theorem gK_03f {α : Type} {a b c : α} : gK 0 3 [2, 1, 0] [] [a, b, c] = [c, b, a] := rfl
/-- lookups by the key -/
def lookA {α : Type} : List (Key × α) → Key → Option α
  | [], _ => none
  | (k, a) :: r, x => if k = x then some a else lookA r x
theorem lookP_dic : ∀ (kvs : List (Key × PyData)) (k : Key), lookP (kvs.map fun p => (keyD p.1, p.2)) k = lookA kvs k
  | [], _ => rfl
  | (.inl i, d) :: r, k => by
    have ih := lookP_dic r k
    show (if Sum.inl i = k then some d else lookP _ k) = if Sum.inl i = k then some d else lookA r k
    rw [ih]
  | (.inr i, d) :: r, k => by
    have ih := lookP_dic r k
    show (if Sum.inr i = k then some d else lookP _ k) = if Sum.inr i = k then some d else lookA r k
    rw [ih]
theorem lookD_dic {α : Type} (f : α → E) : ∀ (kvs : List (Key × α)) (k : Key), lookD (kvs.map fun p => (p.1, f p.2)) k = (lookA kvs k).map f
  | [], _ => rfl
  | (k1, d) :: r, k => by
    have ih := lookD_dic f r k
    show (if k1 = k then some (f d) else lookD _ k) = Option.map f (if k1 = k then some d else lookA r k)
    rw [ih]
    by_cases c : k1 = k
    · rw [if_pos c, if_pos c]; rfl
    · rw [if_neg c, if_neg c]
/-- repr of greater ints -/
theorem bd_intB {i : Int} (h : i.natAbs < 10 ^ 45) : Bd 50 0 (.int i) := by
  refine ⟨?_, by rw [PyData.hasDict], by rw [PyData.depth]; exact Nat.le_refl _, ?_⟩
  · rw [PyData.showable]
    exact decide_eq_true (natAbs_log2 (n := 150) (Nat.lt_of_lt_of_le h (by decide +kernel)) (by decide) (by decide))
  · rw [PyData.shown, PySem.ofString_length]
    have := int_text_length_le10 (k := 45) (by decide) h
    omega
theorem bd_none : Bd 10 0 .none := ⟨by rw [PyData.showable], by rw [PyData.hasDict], by rw [PyData.depth]; exact Nat.le_refl _, by decide⟩
theorem bd_bool {b : Bool} : Bd 10 0 (.bool b) := by cases b <;> exact ⟨by rw [PyData.showable], by rw [PyData.hasDict], by rw [PyData.depth]; exact Nat.le_refl _, by decide⟩
section
variable {c : List Int} {i j : Int} {r : Mm} {o o' : OD}
theorem deckX_len : (deckX c i j).length = 2 := rfl
theorem deckX_len1 : (deckX c i j ++ r).length = r.length + 2 := by rw [List.length_append, deckX_len]; exact Nat.add_comm _ _
theorem deckX_g2 : (deckX c i j ++ o :: r)[2]? = some o := rfl
theorem deckX_g3 : (deckX c i j ++ o :: o' :: r)[3]? = some o' := rfl
theorem deckX_s2 : (deckX c i j ++ o :: r).set 2 o' = deckX c i j ++ o' :: r := rfl
theorem deckX_s3 {o2 : OD} : (deckX c i j ++ o :: o' :: r).set 3 o2 = deckX c i j ++ o :: o2 :: r := rfl
theorem deckX_app {r' : Mm} : deckX c i j ++ r ++ r' = deckX c i j ++ (r ++ r') := List.append_assoc ..
theorem deckX_t2 : (deckX c i j ++ r).take 2 = deckX c i j := rfl
theorem deckX_t2' : (deckX c i j).take 2 = deckX c i j := rfl
theorem deckX_d2 : (deckX c i j ++ r).drop 2 = r := rfl
theorem deckX_fr {k : Nat} {d : PyData} : (deckX c i j ++ r).map (frO k d) = (deckX c i j).map (frO k d) ++ r.map (frO k d) := List.map_append ..
theorem deckX_frz {k : Nat} {d : PyData} (hk : k ≠ 0) : (deckX c i j).map (frO k d) = deckX c i j := by
  unfold deckX
  simp only [List.map_cons, List.map_nil, frO, frE, if_neg (Ne.symm hk), List.map_map]
  rfl
end
/-- a call of a def of the deck, at any ledger -/
theorem call2' {k : Nat} {f : XF} {es : List E} {d : PyData} {c c' : List Int} {i j i' j' : Int} {more : Mm} (hk : es.length = k) (he : es.all (inE 2) = true) (h : f es (deckX c i j) = .ok (.dat d) (deckX c' i' j' ++ more)) :
    kCallN k 2 f es (deckX c i j) = .ok (.dat d) (deckX c' i' j') ∧ ∀ rest, kCallN k 2 f es (deckX c i j ++ rest) = .ok (.dat d) (deckX c' i' j' ++ rest) := by
  refine ⟨?_, fun rest => call2 hk he h⟩
  have := call2 (rest := []) hk he h
  rw [List.append_nil, List.append_nil] at this
  exact this
section
variable {ds : List PyData} {b : Bool} {i j : Int}
theorem tupX_t : tupX (.dat (.tuple ds)) = some ds := rfl
theorem boolX_b : boolX (.dat (.bool b)) = some b := rfl
theorem bool1X_b : bool1X (.bool b) = some b := rfl
theorem seqX_l : seqX (.dat (.list ds)) = some ds := rfl
theorem seqX_t : seqX (.dat (.tuple ds)) = some ds := rfl
theorem intsR1_1 : intsR1 [.dat (.int j)] = some j := rfl
theorem intsR2_2 : intsR2 [.dat (.int i), .dat (.int j)] = some (i, j) := rfl
end
theorem strX_s {x : Str} : strX (.dat (.str x)) = some x := rfl
theorem ySplit_of {x y : Str} (h : (y.length != 0) = true) (h2 : x.length + 2 ≤ sizeLine) : ySplit x (.str y) = some (.list ((Txt.split x y).map .str)) := by
  show og ((y.length != 0) && decide (x.length + 2 ≤ sizeLine)) _ = _
  rw [h, decide_eq_true h2]
  rfl
end DL
/-! DXi: enumerate of a tuple. -/
namespace DL
open PySem PySem.Spec PyProof.Rows L2
open AutoSeq1 (wpAny_loadPart')

section
variable {prog : Program} {w : World} {A : Around} {E : Value → Shared → Prop} {s : Shared}
theorem nextOf_tuple_item {it t : Addr} {i : Nat} {items : Array Value} {x : Value} {Q : Value → Shared → Prop} (hit : s.heap.IsTupleIter it t i)
    (ht : s.heap.IsTuple t items) (hx : items[i]? = some x)
    (hQ : ∀ h', h'.IsTupleIter it t (i + 1) → Heap.SameBut it s.heap h' → Q x { s with heap := h' }) :
    wpAny (model prog w) A (Builtin.SmallTypes.nextOf (.ref it)) Q E s := by
  obtain ⟨o, ho, hc, hd⟩ := id hit
  obtain ⟨ol, hol, _, nl, hdl⟩ := ht
  unfold Builtin.SmallTypes.nextOf
  refine wpAny_bind (wpAny_callSpecial?_slot (name := Str.ofString "__next__") hit.typeIs F.slot_tuple_iterator_next
    (wpAny_call_entry F.slot_tuple_iterator_next hit.typeIs F.entry_tuple_iterator_next ?_ (F.args_tuple_iterator_next_1 _)))
  show wpAny _ _ (field (.ref it) 0 >>= _) _ _ s
  refine wpAny_bind (wpAny_field ho hd (x := .ref t) rfl ?_)
  show wpAny _ _ (if (Value.ref t == Value.none) = true then _ else _) _ _ s
  rw [if_neg (show ¬ ((Value.ref t == Value.none) = true) from Bool.false_ne_true)]
  show wpAny _ _ (field (.ref it) 1 >>= _) _ _ s
  refine wpAny_bind (wpAny_field ho hd (x := .int i 0) rfl ?_)
  show wpAny _ _ (seqItems? (.ref t) >>= _) _ _ s
  refine wpAny_bind (wpAny_seqItems hol hdl ?_)
  simp only [Int.toNat_natCast, hx]
  refine wpAny_bind (wpAny_setField ho hd (by simp) (wpAny_pure ⟨x, rfl, wpAny_pure (hQ _ ?_ (Heap.SameBut.update ..))⟩))
  exact ⟨_, Heap.get?_update_self _ ho (Obj.isFreed_of_fields (Obj.data_mapFields hd _)), (Obj.cls_mapFields ..).trans hc, by
    rw [Obj.data_mapFields hd]; simp [rawInt]⟩
theorem nextOf_tuple_end {it t : Addr} {i : Nat} {items : Array Value} {Q : Value → Shared → Prop} (hh : A.handled = none)
    (hit : s.heap.IsTupleIter it t i) (ht : s.heap.IsTuple t items) (hx : items[i]? = none)
    (hE : ∀ h' e, Heap.ExtBut it s.heap h' → (∃ o, h'.get? e = some o ∧ o.cls = .type "StopIteration") → E (.ref e) { s with heap := h' }) :
    wpAny (model prog w) A (Builtin.SmallTypes.nextOf (.ref it)) Q E s := by
  obtain ⟨o, ho, hc, hd⟩ := id hit
  obtain ⟨ol, hol, _, nl, hdl⟩ := ht
  unfold Builtin.SmallTypes.nextOf
  refine wpAny_bind (wpAny_callSpecial?_slot (name := Str.ofString "__next__") hit.typeIs F.slot_tuple_iterator_next
    (wpAny_call_entry F.slot_tuple_iterator_next hit.typeIs F.entry_tuple_iterator_next ?_ (F.args_tuple_iterator_next_1 _)))
  show wpAny _ _ (field (.ref it) 0 >>= _) _ _ s
  refine wpAny_bind (wpAny_field ho hd (x := .ref t) rfl ?_)
  show wpAny _ _ (if (Value.ref t == Value.none) = true then _ else _) _ _ s
  rw [if_neg (show ¬ ((Value.ref t == Value.none) = true) from Bool.false_ne_true)]
  show wpAny _ _ (field (.ref it) 1 >>= _) _ _ s
  refine wpAny_bind (wpAny_field ho hd (x := .int i 0) rfl ?_)
  show wpAny _ _ (seqItems? (.ref t) >>= _) _ _ s
  refine wpAny_bind (wpAny_seqItems hol hdl ?_)
  simp only [Int.toNat_natCast, hx]
  refine wpAny_bind (wpAny_rule (wpAny_bind (wpAny_setField ho hd (by simp) ?_)))
  show wpAny _ _ (newExc (.type "StopIteration") [] >>= _) _ _ _
  refine wpAny_bind ?_
  simp only [newExc, newTuple]
  refine wpAny_bind (wpAny_newObj_type ?_ (by size_fits))
  refine wpAny_bind (m := firstArgMember _ _) (wpAny_of_eq (a := Value.none) (by first | rfl | (simp only [firstArgMember]; rfl)) ?_)
  refine wpAny_newObj_type ?_ (by size_fits)
  simp only [raiseNew]
  refine wpAny_bind (wpAny_handled ?_)
  first | rw [show A.in1.handled = none from hh] | rw [hh]
  refine wpAny_bind (wpAny_pure (wpAny_throw ?_))
  exact hE _ _ (((Heap.SameBut.update ..).extBut.push _).push _) ⟨_, Heap.get?_push_size _ rfl, rfl⟩
theorem draws_tuple (hh : A.handled = none) (it l : Addr) (hne : l ≠ it) (items : Array Value) :
    Draws prog w A it [it, l] items.size (fun i v => items[i]? = some v) (fun i h => h.IsTupleIter it l i ∧ h.IsTuple l items) where
  live := fun _ _ st => let ⟨o, ho, _⟩ := st.1; ⟨o, ho⟩
  frame := fun _ _ _ st hk => ⟨st.1.at fun o e => hk it (by simp) o e, st.2.at fun o e => hk l (by simp) o e⟩
  item := fun i s Q E hi st hQ => by
    refine nextOf_tuple_item st.1 st.2 (x := items[i]) (by simp [hi]) fun h' hit' hs' => ?_
    exact hQ _ h' s.toks (by simp [hi]) ⟨hit', st.2.extBut hs'.extBut hne⟩ hs'
  done := fun s Q E st hE => nextOf_tuple_end hh st.1 st.2 (by simp) hE
theorem meets_enumerate_newT (l : Addr) (items : Array Value) :
    Meets (Builtin.«enumerate.__new__» ⟨[.type "enumerate", .ref l], []⟩) (fun _ R s => s.heap.IsTuple l items ∧
      R (.ok (.ret (.ref (s.heap.push { cls := .type "tuple_iterator", data := .fields #[.ref l, .int 0 0] }).objs.size)))
        { s with heap := (s.heap.push { cls := .type "tuple_iterator", data := .fields #[.ref l, .int 0 0] }).push { cls := .type "enumerate", data := .fields #[.none, .bool false, .ref s.heap.objs.size, rawInt 0, .none, .none] } }) :=
  .of_wp fun prog w A R s h => by
    obtain ⟨hp, g, d, tk, os⟩ := s; obtain ⟨hl, h⟩ := h
    have hsub := sub_enumerate
    have hL : Heap.IsTuple (Shared.heap ⟨hp, g, d, tk, os⟩) l items := hl
    obtain ⟨ol, hol, _⟩ := id hl
    wp_walk using wpAny_loadPart' hol
    refine wpAny_stack_any fun st => wpAny_pure ?_
    split
    · rename_i c _ _ _ _ _
      cases (c == Value.type "enumerate")
      · wp_walk using wpAny_loadPart' hol, wpAny_pyIter_tuple hL
        exact ⟨_, rfl, h⟩
      · wp_walk using wpAny_loadPart' hol, wpAny_pyIter_tuple hL
        exact ⟨_, rfl, h⟩
    · wp_walk using wpAny_loadPart' hol, wpAny_pyIter_tuple hL
      exact ⟨_, rfl, h⟩
theorem call_enumerate_tuple {l : Addr} {items : Array Value} {Q : Value → Shared → Prop} (hL : s.heap.IsTuple l items)
    (h : ∀ h', IsEnum h' (s.heap.objs.size + 1) s.heap.objs.size 0 .none → h'.IsTupleIter s.heap.objs.size l 0 → h'.objs.size = s.heap.objs.size + 2 →
      (∀ b o, s.heap.get? b = some o → h'.get? b = some o) → Q (.ref (s.heap.objs.size + 1)) { s with heap := h' }) :
    wpAny (model prog w) A (call (.type "enumerate") [.ref l]) Q E s := by
  refine callType_new F.called_enumerate (by decide) (F.typeCall_enumerate_1 _) (F.newCall_enumerate_1 _) (fun obj => F.args_object_init_2 obj _) F.entry_enumerate_new
    (meets_enumerate_newT l items) ⟨hL, ?_⟩
  have hz : (s.heap.push { cls := .type "tuple_iterator", data := .fields #[.ref l, .int 0 0] }).objs.size = s.heap.objs.size + 1 := Heap.size_push ..
  show _ ∧ _
  rw [hz]
  have he : IsEnum ((s.heap.push { cls := .type "tuple_iterator", data := .fields #[.ref l, .int 0 0] }).push
      { cls := .type "enumerate", data := .fields #[.none, .bool false, .ref s.heap.objs.size, rawInt 0, .none, .none] }) (s.heap.objs.size + 1) s.heap.objs.size 0 .none := by
    have := Heap.get?_push_size (s.heap.push { cls := .type "tuple_iterator", data := .fields #[.ref l, .int 0 0] })
      (o := { cls := .type "enumerate", data := .fields #[.none, .bool false, .ref s.heap.objs.size, rawInt 0, .none, .none] }) rfl
    rw [hz] at this; exact this
  refine ⟨⟨_, he, rfl⟩, h _ he ⟨_, Heap.get?_push_of_some _ (Heap.get?_push_size _ rfl), rfl, rfl⟩ (by rw [Heap.size_push, hz]) fun b o x => Heap.get?_push_of_some _ (Heap.get?_push_of_some _ x)⟩
end
/-- the tuple at a, its items in new pairs -/
def IteT (K : PySem.W.Frag) (a : Addr) : It :=
  ⟨fun i H => ∃ (xs : List V) (x : V), SqT K H a xs ∧ xs[i]? = some x, fun i H v H' => ∃ T x, v = .ref T ∧ H T = none ∧ H' = upd H T (.tup [.int (i : Nat), x]) ∧ ∀ xs, SqT K H a xs → xs[i]? = some x, fun i H => ∃ xs : List V, SqT K H a xs ∧ xs.length ≤ i⟩
theorem turn_enumT {P : Program} {w : World} {K : PySem.W.Frag} {elts : List Expr} {kk : Nat} {tpos : Pos} (a e it : Addr) :
    Turn P w K (.Tuple elts kk tpos) (IteT K a) [e, it] e (fun i h => (∃ old, IsEnum h e it ((i : Nat) : Int) old) ∧ h.IsTupleIter it a i ∧ e ≠ it ∧ e ≠ a ∧ a ≠ it) where
  mem := by simp
  obj := fun i h st b hb => by
    obtain ⟨⟨old, he⟩, ⟨o, ho, hc, hd⟩, _⟩ := st
    have e' : b = e ∨ b = it := by simpa using hb
    rcases e' with z | z
    · rw [z]; exact ⟨_, he, fun v q => nomatch q⟩
    · rw [z]; exact ⟨o, ho, fun v q => by rw [hd] at q; cases q⟩
  keep := fun i h h' st k => let ⟨⟨old, he⟩, hi, hne⟩ := st; ⟨⟨old, k e (by simp) _ he⟩, hi.at fun o q => k it (by simp) o q, hne⟩
  item := by
    intro X hP hw hK hc i pins s σ H E I hf st hg
    subst hP hw hK
    obtain ⟨⟨old, he⟩, hit, hne, hea, hai⟩ := st
    obtain ⟨xs, x, hq, hx⟩ := hg
    obtain ⟨its, rv, p, hz⟩ := I.tuple hq
    obtain ⟨u, hu, ru⟩ := rv.get hx
    have p' : s.heap.IsTuple a its.toArray := p
    have hel : e < s.heap.objs.size := Heap.lt_size he
    have hil : it < s.heap.objs.size := by obtain ⟨_, q, _⟩ := hit; exact Heap.lt_size q
    have hlt : i < its.toArray.size := by
      have := (List.getElem?_eq_some_iff.mp hu).1
      simpa using this
    refine wpAny_pyNext_enum_itemD (draws_tuple (A := X.A.in1) (show X.A.in1.handled = none from I.ok.hd hc) it a hai its.toArray) he ⟨hit, p'⟩ hlt hne (by simp [hne, hea]) fun x' h' tk hx' ho st' hT hsz hk => ?_
    have ex : x' = u := by
      have h1 : its.toArray[i]? = some u := by simpa using hu
      rw [h1] at hx'
      exact (Option.some.inj hx').symm
    subst ex
    refine ⟨_, rfl, wpAny_letOwnedTupleGo_enum (s := { s with heap := h', toks := tk + 1 }) ho fun h'' he' sb => ?_⟩
    have hT2 : h''.get? s.heap.objs.size = some { cls := .type "tuple", data := .seq #[.int i tk, x'] } := (sb.2 _ (Nat.ne_of_gt hel)).trans hT
    have new : ObjOk X.prog X.w (upd H s.heap.objs.size (.tup [.int (i : Nat), x])) h'' s.heap.objs.size (.tup [.int (i : Nat), x]) :=
      ⟨by show 2 ≤ sizeLine; decide, [.int i tk, x'], .cons ⟨_, rfl⟩ (.cons ru .nil), ⟨_, hT2, rfl, _, rfl⟩⟩
    have I1 : Inv X pins σ (upd H s.heap.objs.size (.tup [.int (i : Nat), x])) { s with heap := h'', toks := tk + 1 } :=
      I.turnedNew (ch := [e, it]) (fun b ob hb q => (sb.2 b (fun z => hb (by simp [z]))).trans (hk b ob (fun z => hb (by simp [z])) (fun z => hb (by simp [z])) q)) hf (Nat.le_refl _) new
    refine ⟨.ref s.heap.objs.size, _, I1, rfl, ⟨_, x, rfl, I.hok.fresh (Nat.le_refl _), rfl, fun ys hy => by rw [I.tuple_inj hy hq]; exact hx⟩, ⟨⟨x', ?_⟩, st'.1.at fun o q => (sb.2 it (Ne.symm hne)).trans q, hne, hea, hai⟩, fun b hb => ?_⟩
    · have e1 : ((i + 1 : Nat) : Int) = (i : Int) + 1 := by omega
      rw [e1]; exact he'
    · have hb' : b < s.heap.objs.size := by
        have e' : b = e ∨ b = it := by simpa using hb
        rcases e' with z | z
        · rw [z]; exact hel
        · rw [z]; exact hil
      rw [upd_ne (Nat.ne_of_lt hb')]
      exact (hf b hb).1
  done := by
    intro X hP hw hK hc i pins s σ H E I hf st hg
    subst hP hw hK
    obtain ⟨⟨old, he⟩, hit, hne, hea, hai⟩ := st
    obtain ⟨xs, hq, hx⟩ := hg
    obtain ⟨its, rv, p, hz⟩ := I.tuple hq
    obtain ⟨f0, f1, f2, f3, f4, f5⟩ := hf it (by simp)
    have hl := rv.length
    have p' : s.heap.IsTuple a its.toArray := p
    have hT : s.TypeIs (.ref e) "enumerate" := ⟨_, he, rfl⟩
    unfold pyNext
    refine wpAny_bind (wpAny_attempt (wpAny_callSpecial?_slot (name := Str.ofString "__next__") hT F.slot_enumerate_next
      (wpAny_call_entry F.slot_enumerate_next hT F.entry_enumerate_next ?_ (F.args_enumerate_next_1 _))))
    show wpAny _ _ (field (.ref e) 2 >>= _) _ _ _
    refine wpAny_bind (wpAny_field he rfl (x := .ref it) rfl ?_)
    refine wpAny_bind (nextOf_tuple_end (I.ok.hd hc) hit p' (by simp; omega) fun h' x he' hx' => ?_)
    obtain ⟨o, ho, hc'⟩ := hx'
    refine wpAny_bind (wpAny_isInstance (T := "StopIteration") (b := true) ⟨o, ho, hc'⟩ isSubtype_stop ?_)
    exact wpAny_pure ⟨rfl, I.turned (t' := s.toks) (fun b o hb q => he' b o hb q) f0 f1 f3 f4 f5⟩
  self := fun A i s Q E st h => let ⟨⟨_, he⟩, _⟩ := st; wpAny_pyIter_enum he h
def iEnumT (K : PySem.W.Frag) (ta : TA) : TI := fun σ H R => ta σ H fun vs H1 => ∃ a xs, vs = [.ref a] ∧ ((SqL K H1 a xs ∧ R (Ite K a) H1) ∨ (SqT K H1 a xs ∧ R (IteT K a) H1))
theorem pi_enumA {X : Cx} {e : Expr} {ta : TA} {p pos tpos : Pos} {elts : List Expr} {kk : Nat} (hg : Gl X "enumerate") (hm : X.mg "enumerate" = none) (ha : PA X [e] ta) (hs : starEach [e] X.env = [(false, eval e X.env)] := by rfl) :
    PI X (.Tuple elts kk tpos) (.Call (.Name "enumerate" p) [e] [] pos) (iEnumT X.K ta) := by
  refine ⟨fun pins s σ H R I h => ?_⟩
  refine Call_ (ld_blt I hg hm boot_enumerate (PyProof.Rows.callWith_type1 (thn (ha.run pos pins s σ H _ I h) fun us s1 ⟨vs, H1, I1, r1, q1⟩ => ?_) hs rfl))
  obtain ⟨a, xs, ex, q⟩ := q1
  subst ex
  cases r1 with
  | cons r rr =>
    cases rr
    cases r
    have fresh : ∀ b, b ∈ [s1.heap.objs.size + 1, s1.heap.objs.size] → s1.heap.objs.size ≤ b := fun b hb => by
      have e' : b = s1.heap.objs.size + 1 ∨ b = s1.heap.objs.size := by simpa using hb
      rcases e' with z | z
      · rw [z]; exact Nat.le_add_right _ _
      · rw [z]; exact Nat.le_refl _
    rcases q with ⟨hq, q⟩ | ⟨hq, q⟩
    · obtain ⟨its, rv, p', hz⟩ := I1.list hq
      refine call_enumerate_list p'.isList fun h' he hit hsz hk => wpAny_pyIter_enum he ?_
      have I2 : Inv X pins σ H1 { s1 with heap := h' } := I1.kept (t' := s1.toks) hk
      exact ⟨s1.heap.objs.size + 1, [s1.heap.objs.size + 1, s1.heap.objs.size], _, _, H1, rfl, I2, turn_enum a (s1.heap.objs.size + 1) s1.heap.objs.size, ⟨⟨.none, he⟩, hit, Nat.succ_ne_self _⟩, fun b hb => I1.fpOk (fresh b hb) (I1.hok.fresh (fresh b hb)), q⟩
    · obtain ⟨its, rv, p', hz⟩ := I1.tuple hq
      have pt : s1.heap.IsTuple a its.toArray := p'
      have hal : a < s1.heap.objs.size := by obtain ⟨_, q, _⟩ := pt; exact Heap.lt_size q
      refine call_enumerate_tuple pt fun h' he hit hsz hk => wpAny_pyIter_enum he ?_
      have I2 : Inv X pins σ H1 { s1 with heap := h' } := I1.kept (t' := s1.toks) hk
      exact ⟨s1.heap.objs.size + 1, [s1.heap.objs.size + 1, s1.heap.objs.size], _, _, H1, rfl, I2, turn_enumT a (s1.heap.objs.size + 1) s1.heap.objs.size, ⟨⟨.none, he⟩, hit, Nat.succ_ne_self _, fun z => Nat.lt_irrefl _ (Nat.lt_of_lt_of_le hal (z ▸ Nat.le_succ _)), fun z => Nat.lt_irrefl _ (Nat.lt_of_lt_of_le hal (Nat.le_of_eq z.symm))⟩, fun b hb => I1.fpOk (fresh b hb) (I1.hok.fresh (fresh b hb)), q⟩
theorem yld_enumT {K : PySem.W.Frag} {S : Sd} {a : Addr} {xs : List V} {ds : List PyData} (h : SqT K S.F a xs) (t : DvAll K S.F xs ds) : Yld K (IteT K a) S (enumD ds) := by
  intro W S1 m1 H1 l r
  have h1 : SqT K H1 a xs := r.sub.st (l.f.st h)
  have hl : (enumD ds).length = ds.length := by unfold enumD; rw [List.length_mapIdx]
  refine ⟨fun i d hd => ?_, xs, h1, by rw [hl, t.length]; exact Nat.le_refl _⟩
  unfold enumD at hd
  rw [List.getElem?_mapIdx] at hd
  cases e : ds[i]? with
  | none =>
    rw [e] at hd
    cases hd
  | some z =>
    rw [e] at hd
    have hd' : PyData.tuple [.int (i : Int), z] = d := Option.some.inj hd
    subst hd'
    obtain ⟨v, hv, rv⟩ := DvAll.get' t e
    refine ⟨⟨xs, v, h1, hv⟩, fun x H2 y => ?_⟩
    obtain ⟨T, w, rfl, hT, rfl, y⟩ := y
    have : w = v := Option.some.inj ((y xs h1).symm.trans hv)
    subst this
    obtain ⟨r2, l2⟩ := r.frz (o := .tup [.int (i : Nat), w]) hT
    exact ⟨_, r2, l2, .tup (Or.inl (Or.inl upd_same)) (.cons (.int _) (.cons (Dv.mono (l.f.trans l2.f) rv) .nil))⟩
def onSeq1 : List E → (List PyData → Prop) → Prop
  | [.dat (.list ds)], Q => Q ds
  | [.dat (.tuple ds)], Q => Q ds
  | _, _ => False
def diEnA (ta : DTA) : DTI := fun g m Q => ta g m fun es m1 => onSeq1 es fun ds => Q (enumD ds) m1
theorem di_enumA {X : Cx} {e : Expr} {ta : DTA} {p pos tpos : Pos} {elts : List Expr} {kk : Nat} (hm : X.mg "enumerate" = none) (h : DA X [e] ta) (hg : Gl X "enumerate" := by rfl) (hs : starEach [e] X.env = [(false, eval e X.env)] := by rfl) :
    DI X (.Tuple elts kk tpos) (.Call (.Name "enumerate" p) [e] [] pos) (diEnA ta) := by
  obtain ⟨_, pa, s⟩ := h.ex
  refine ⟨_, pi_enumA hg hm pa hs, fun W S g m σ H Q R r0 sl hq k => ?_⟩
  refine s W S g m σ H _ _ r0 sl hq fun vs H1 S1 es m1 r1 l1 ev q1 => ?_
  match es, vs, ev, q1 with
  | [.dat (.list ds)], [v], .cons h .nil, q1 =>
    obtain ⟨a, xs, rfl, hF, hA⟩ := dv_lst h
    exact ⟨a, xs, rfl, Or.inl ⟨Or.inl (Or.inl (r1.sub _ _ hF)), k _ H1 S1 _ m1 r1 l1 (yld_enum (Or.inl (Or.inl hF)) hA) q1⟩⟩
  | [.dat (.tuple ds)], [v], .cons h .nil, q1 =>
    obtain ⟨a, xs, rfl, hF, hA⟩ := dv_tup h
    exact ⟨a, xs, rfl, Or.inr ⟨r1.sub.st hF, k _ H1 S1 _ m1 r1 l1 (yld_enumT hF hA) q1⟩⟩
def seq1 : List E → Option (List PyData)
  | [.dat (.list ds)] => some ds
  | [.dat (.tuple ds)] => some ds
  | _ => none
def piEnA (es : List E) (m : Mm) : Rs (List PyData) := xo (seq1 es) fun ds => .ok (enumD ds) m
def xiEnA (xa : XA) (g : Gm) (m : Mm) : Rs (List PyData) := rb (xa g m) piEnA
theorem ii_EnA {Xp : XP} {xa : XA} : II (ofI Xp (xiEnA xa)) (diEnA (ofA Xp xa)) := fun g m Q q => post_rb q fun es m1 q => by
  obtain ⟨j, h, q1⟩ := post_xo q
  unfold seq1 at h
  split at h
  · cases h
    exact q1
  · cases h
    exact q1
  · cases h
theorem seq1_l {ds : List PyData} : seq1 [.dat (.list ds)] = some ds := rfl
theorem seq1_t {ds : List PyData} : seq1 [.dat (.tuple ds)] = some ds := rfl
end DL
/-! DXj: a, b, *c = a tuple. -/
namespace DL
open PySem PySem.Spec PyProof.Rows L2

section
variable {prog : Program} {w : World} {A : Around} {E : Value → Shared → Prop} {s : Shared}
theorem walksS_tuple (hh : A.handled = none) (it t : Addr) (hne : t ≠ it) (items : Array Value) (i0 : Nat) (hi : i0 ≤ items.size) :
    WalksS prog w A it [it, t] [it] (fun a b => a = b) (items.size - i0) (fun i v => items[i0 + i]? = some v) (fun i s => s.heap.IsTupleIter it t (i0 + i) ∧ s.heap.IsTuple t items) where
  sub := fun b hb => by simp at hb; simp [hb]
  grefl := fun _ => rfl
  gtrans := fun _ _ _ h h' => h.trans h'
  frame := fun i s h' tk st _ hk => ⟨st.1.at fun o e => hk it (by simp) o e, st.2.at fun o e => hk t (by simp) o e⟩
  item := fun i s Q E hlt st hQ => by
    have hx : items[i0 + i]? = some items[i0 + i] := Array.getElem?_eq_getElem (by omega)
    refine wpAny_pyNext_tuple_item st.1 st.2 hx fun h' hit' hs' => ?_
    exact hQ _ _ hx ⟨hit', st.2.extBut hs'.extBut hne⟩ ⟨fun b o hb e => hs'.extBut b o (fun z => hb (by simp [z])) e, rfl, rfl, rfl, Nat.le_refl _⟩
  done := fun s Q E st hQ => by
    refine wpAny_pyNext_tuple_end hh st.1 st.2 (by simp; omega) fun h' eb => ?_
    exact hQ _ ⟨fun b o hb e => eb b o (fun z => hb (by simp [z])) e, rfl, rfl, rfl, Nat.le_refl _⟩
  self := fun i s Q E st h => wpAny_pyIter_tupleiter st.1 h
theorem items_of {items : Array Value} {i0 : Nat} {acc : Array Value} (h : ItemsOf (fun i v => items[i0 + i]? = some v) acc (items.size - i0)) : acc.toList = items.toList.drop i0 := by
  apply List.ext_getElem?
  intro j
  rw [List.getElem?_drop, Array.getElem?_toList, Array.getElem?_toList]
  by_cases hj : j < acc.size
  · have e : acc[j]? = some acc[j] := Array.getElem?_eq_getElem hj
    rw [e, h.2 j _ e]
  · have h1 := h.1
    rw [Array.getElem?_eq_none (by omega), Array.getElem?_eq_none (by omega)]
/-- the first i of a tuple, the others as a list -/
theorem unpackItems_star {t : Addr} {items : Array Value} {n i : Nat} {Q : List Value → Shared → Prop} (hh : A.handled = none) (ht : s.heap.IsTuple t items) (hn : n = i + 1) (hi : i ≤ items.size) (hz : items.size ≤ sizeLine)
    (hQ : ∀ s' : Shared, (∀ b o, s.heap.get? b = some o → s'.heap.get? b = some o) → s'.gens = s.gens → s'.drawn = s.drawn → s'.os = s.os → s.toks ≤ s'.toks →
      Q (items.toList.take i ++ [.ref s'.heap.objs.size]) { s' with heap := s'.heap.push { cls := .type "list", data := .seq (items.toList.drop i).toArray } }) :
    wpAny (model prog w) A (unpackItems (.ref t) n (some i)) Q E s := by
  have hlt : t ≠ s.heap.objs.size := by obtain ⟨o, ho, _⟩ := ht; exact Nat.ne_of_lt (Heap.lt_size ho)
  unfold unpackItems
  refine wpAny_bind ?_
  · unfold notIterableAtAll
    refine wpAny_bind (wpAny_specialOf ht.typeIs F.slot_tuple_iter.lookup ?_)
    refine wpAny_pure ?_
    simp only [Bool.false_eq_true, if_false]
    refine wpAny_bind (wpAny_holding (wpAny_pyIter_tuple ht ?_))
    refine wpAny_bind (wpAny_holding (wpAny_draw_tuple hlt i 0 _ _ ⟨_, Heap.get?_push_size _ rfl, rfl, rfl⟩ (ht.push _) (by omega) fun h₁ hit₁ hs₁ => ?_))
    rw [List.drop_zero]
    have hlen : (items.toList.take i).length = i := by rw [List.length_take]; simp; omega
    rw [if_neg (by rw [hlen]; omega)]
    have ht₁ : h₁.IsTuple t items := (ht.push _).extBut hs₁.extBut hlt
    rw [Nat.zero_add] at hit₁
    have W := walksS_tuple (prog := prog) (w := w) (A := A.in1) (show A.in1.handled = none from hh) s.heap.objs.size t hlt items i hi
    have hs1 : h₁.objs.size = s.heap.objs.size + 1 := by rw [hs₁.1]; exact Heap.size_push ..
    refine wpAny_bind (wpAny_holding (wpAny_collect_iter (T := "tuple_iterator") (by simp) W (fun i s st => st.1.typeIs) ⟨hit₁, ht₁⟩ (fun b hb => ?_) (by simp) (fun s' acc hm hacc => ?_) (by omega)))
    · have hb' : b = s.heap.objs.size ∨ b = t := by simpa using hb
      show b < h₁.objs.size
      rw [hs1]
      rcases hb' with z | z
      · rw [z]; exact Nat.lt_succ_self _
      · rw [z]
        obtain ⟨o, ho, _⟩ := ht
        exact Nat.lt_succ_of_lt (Heap.lt_size ho)
    have hal := items_of hacc
    have keep : ∀ b o, s.heap.get? b = some o → s'.heap.get? b = some o := fun b o e => by
      have hb : b ≠ s.heap.objs.size := Nat.ne_of_lt (Heap.lt_size e)
      exact hm.heap b o (by simpa using hb) (hs₁.extBut b o hb (Heap.get?_push_of_some _ e))
    subst hn
    have h0 : i + 1 - 1 - i = 0 := by omega
    simp only [h0, Nat.sub_zero]
    rw [if_neg (by omega), hal]
    have h1 : (items.toList.drop i).take (items.toList.drop i).length = items.toList.drop i := List.take_length
    have h2 : (items.toList.drop i).drop (items.toList.drop i).length = [] := List.drop_length
    rw [h1, h2]
    refine wpAny_bind (wpAny_newList ?_ ?_)
    · simp only [List.append_nil]
      exact wpAny_pure (hQ s' keep hm.gens.symm hm.drawn hm.os hm.toks)
    · simp
      omega
end
section
variable {X : Cx} {pos : Pos}
def gTupS (K : PySem.W.Frag) (n : Nat) (t : TGs) : TG := fun v σ H Q => ∃ a xs, v = .ref a ∧ SqT K H a xs ∧ n ≤ xs.length ∧ ∀ p, H p = none → t (xs.take n ++ [.ref p]) σ (upd H p (.lst (xs.drop n))) Q
theorem valsT : ∀ (n : Nat) {xs : List V} {us : List Value}, Vals xs us → Vals (xs.take n) (us.take n)
  | 0, _, _, _ => .nil
  | _ + 1, _, _, .nil => .nil
  | n + 1, _, _, .cons h t => .cons h (valsT n t)
theorem valsD : ∀ (n : Nat) {xs : List V} {us : List Value}, Vals xs us → Vals (xs.drop n) (us.drop n)
  | 0, _, _, h => h
  | _ + 1, _, _, .nil => .nil
  | n + 1, _, _, .cons _ t => valsD n t
theorem pg_tupS {es es' : List Expr} {k n : Nat} {t : TGs} (hc : X.calm = true) (h : PGs X es' t) (hm : (assignEach es X.env).map (·.2) = (assignEach es' X.env).map (·.2) := by rfl)
    (hn : (assignEach es X.env).length = n + 1 := by rfl) (hst : (assignEach es X.env).findIdx? (·.1) = some n := by rfl) : PG X (.Tuple es k pos) (gTupS X.K n t) := by
  refine ⟨fun pins s σ H v u Q I r hw => ?_⟩
  obtain ⟨a, xs, e1, hq, hl, hw⟩ := hw
  subst e1
  cases r
  obtain ⟨its, rv, ht, hz⟩ := I.tuple hq
  have pt : s.heap.IsTuple a its.toArray := ht
  have hlen := rv.length
  rw [assign_Tuple]
  refine wpAny_bind (wpAny_standAt ?_)
  unfold unpack
  rw [hn, hst, hm]
  refine wpAny_bind (wpAny_holding (unpackItems_star (I.ok.hd hc) pt rfl (by simp; omega) (by simp; omega) fun s' keep hg hd ho htk => ?_))
  obtain ⟨hp', g', d', tk', os'⟩ := s'
  cases hg
  cases hd
  cases ho
  have keep' : ∀ b o, s.heap.get? b = some o → (hp'.push { cls := .type "list", data := .seq (its.toArray.toList.drop n).toArray }).get? b = some o := fun b o e => Heap.get?_push_of_some _ (keep b o e)
  have I0 : Inv X pins σ H { s with heap := hp', toks := tk' } := I.kept (t' := tk') keep
  have hp := I0.hok.fresh (Nat.le_refl hp'.objs.size)
  have e2 : its.toArray.toList = its := by simp
  have new : ObjOk X.prog X.w (upd H hp'.objs.size (.lst (xs.drop n))) (hp'.push { cls := .type "list", data := .seq (its.toArray.toList.drop n).toArray }) hp'.objs.size (.lst (xs.drop n)) :=
    ⟨by rw [List.length_drop]; omega, its.drop n, _, valsD n rv, by rw [e2]; exact Heap.get?_push_size _ rfl⟩
  have I2 : Inv X pins σ (upd H hp'.objs.size (.lst (xs.drop n))) { s with heap := hp'.push { cls := .type "list", data := .seq (its.toArray.toList.drop n).toArray }, toks := tk' } :=
    I0.laid (t' := tk') (fun b o e => Heap.get?_push_of_some _ e) (Nat.le_refl _) new
  exact h.run pins _ σ _ (xs.take n ++ [.ref hp'.objs.size]) _ Q I2 (by rw [e2]; exact (valsT n rv).append (.cons rfl .nil)) (hw _ hp)
def dgTupS (n : Nat) (t : DTGs) : DTG := fun e g m Q => onTup e fun ds => n ≤ ds.length ∧ t ((ds.take n).map .dat ++ [.dat (.list (ds.drop n))]) g m Q
theorem dg_tupS {es es' : List Expr} {k : Nat} {t : DTGs} {n : Nat} (hc : X.calm = true) (h : DGs X es' t) (hm : (assignEach es X.env).map (·.2) = (assignEach es' X.env).map (·.2) := by rfl)
    (hn : (assignEach es X.env).length = n + 1 := by rfl) (hst : (assignEach es X.env).findIdx? (·.1) = some n := by rfl) : DG X (.Tuple es k pos) (dgTupS n t) := by
  obtain ⟨_, p, s⟩ := h.ex
  refine ⟨_, pg_tupS hc p hm hn hst, fun W S g m σ H v e Q R r0 sl ev hq k => ?_⟩
  obtain ⟨ds, rfl, hl, q⟩ := onTup_of hq
  obtain ⟨a, xs, rfl, hT, hA⟩ := dv_tup (show Dv X.K S.F v (.tuple ds) from ev)
  refine ⟨a, xs, rfl, r0.sub.st hT, by rw [hA.length]; exact hl, fun pp hpp => ?_⟩
  obtain ⟨r1, l1⟩ := r0.frz (o := .lst (xs.drop n)) hpp
  refine s W _ g m σ _ _ _ Q R r1 (sl.mono l1) (EvEs.append (dat_evs (DvAll.take n (DvAll.mono l1.f hA))) (.cons ?_ .nil)) q fun σ2 H2 S2 g2 m2 r2 l2 => k σ2 H2 S2 g2 m2 r2 (l1.trans l2)
  exact Dv.lst upd_same (DvAll.drop n (DvAll.mono l1.f hA))
end
def kgTupS (n : Nat) (t : XGs) (g : Gm) (m : Mm) (ds : List PyData) : Rs Gm := xg (decide (n ≤ ds.length)) (t ((ds.take n).map .dat ++ [.dat (.list (ds.drop n))]) g m)
def xgTupS (n : Nat) (t : XGs) (e : E) (g : Gm) (m : Mm) : Rs Gm := xo (tupX e) (kgTupS n t g m)
theorem ig_TupS {Xp : XP} {Gs : XGs} {n : Nat} : IG (ofG Xp (xgTupS n Gs)) (dgTupS n (ofGs Xp Gs)) := fun e g m Q q => let ⟨ds, h, q⟩ := post_xo q; let ⟨h2, q⟩ := post_xg q; tupX_of h ⟨of_decide_eq_true h2, q⟩
end DL
/-! DXk: a set made of a list of texts and whole numbers, and its sorted list. -/
namespace DL
open PySem PySem.Spec PyProof.Rows L2

def rdK : Value → Key
  | .int k _ => .inl k
  | .str x _ => .inr x
  | _ => .inl 0
theorem rdK_of {k : Key} {v : Value} (h : keyIs k v = true) : rdK v = k := by
  rcases keyIs_shape h with ⟨i, t, rfl, rfl⟩ | ⟨x, t, rfl, rfl⟩ <;> rfl
theorem scanK {k : Key} {v : Value} (h : keyIs k v = true) : v.scannable = true := by
  rcases keyIs_shape h with ⟨i, t, rfl, rfl⟩ | ⟨x, t, rfl, rfl⟩ <;> rfl
/-- an entry: a key and its hash -/
def EntK (w : World) (e : Int × Value) : Prop := ∃ k, keyIs k e.2 = true ∧ e.1 = keyH w k
abbrev kOf (e : Int × Value) : Key := rdK e.2
/-- the entries are the keys of L, each once; the table can be walked -/
structure TabK (w : World) (L : List Key) (n : Nat) (es : Array (Int × Value)) (t : SetTable) : Prop where
  ent : ∀ e ∈ es.toList, EntK w e
  nd : (es.toList.map kOf).Nodup
  mem : ∀ k, k ∈ L ↔ k ∈ es.toList.map kOf
  few : es.size ≤ n
  fit : t.fits es.size = true
  ris : Ris t.place.toList
  led : w.params.followText "set-order" = true ∨ t.led = true
def SetL (w : World) (h : Heap) (a : Addr) (L : List Key) (n : Nat) : Prop := ∃ o es ep t, h.get? a = some o ∧ o.ExactSet ∧ o.data = .set es ep t ∧ TabK w L n es t
theorem SetL.keep {w : World} {h h' : Heap} {a : Addr} {L : List Key} {n : Nat} (R : SetL w h a L n) (k : ∀ o, h.get? a = some o → h'.get? a = some o) : SetL w h' a L n :=
  let ⟨o, es, ep, t, ho, r⟩ := R; ⟨o, es, ep, t, k o ho, r⟩
theorem TabK.perm {w : World} {L : List Key} {n : Nat} {es es' : Array (Int × Value)} {t t' : SetTable} (T : TabK w L n es t) (p : es'.toList.Perm es.toList) (hf : t'.fits es'.size = true) (hr : Ris t'.place.toList) (hl : t'.led = t.led) : TabK w L n es' t' where
  ent := fun e he => T.ent e (p.mem_iff.mp he)
  nd := (p.map kOf).nodup_iff.mpr T.nd
  mem := fun k => (T.mem k).trans (p.map kOf).mem_iff.symm
  few := by rw [← Array.length_toList, p.length_eq, Array.length_toList]; exact T.few
  fit := hf
  ris := hr
  led := T.led.imp id fun z => by rw [hl]; exact z
theorem TabK.more {w : World} {L : List Key} {n : Nat} {es es' : Array (Int × Value)} {t t' : SetTable} {k : Key} {v : Value} (T : TabK w L n es t) (hv : keyIs k v = true) (hk : k ∉ es.toList.map kOf) (p : es'.toList.Perm ((keyH w k, v) :: es.toList))
    (hf : t'.fits es'.size = true) (hr : Ris t'.place.toList) (hl : t'.led = t.led) : TabK w (k :: L) (n + 1) es' t' := by
  have pk := p.map kOf
  have e0 : kOf (keyH w k, v) = k := rdK_of hv
  rw [List.map_cons, e0] at pk
  refine ⟨fun e he => ?_, pk.nodup_iff.mpr (List.nodup_cons.mpr ⟨hk, T.nd⟩), fun j => ?_, ?_, hf, hr, T.led.imp id fun z => by rw [hl]; exact z⟩
  · rcases List.mem_cons.mp (p.mem_iff.mp he) with z | z
    · rw [z]
      exact ⟨k, hv, rfl⟩
    · exact T.ent e z
  · rw [pk.mem_iff, List.mem_cons, List.mem_cons, T.mem j]
  · have z := p.length_eq
    rw [List.length_cons, Array.length_toList, Array.length_toList] at z
    have := T.few
    omega
theorem TabK.again {w : World} {L : List Key} {n : Nat} {es : Array (Int × Value)} {t : SetTable} {k : Key} (T : TabK w L n es t) (hk : k ∈ es.toList.map kOf) : TabK w (k :: L) (n + 1) es t :=
  ⟨T.ent, T.nd, fun j => ⟨fun z => (List.mem_cons.mp z).elim (fun e => e ▸ hk) fun z => (T.mem j).1 z, fun z => List.mem_cons_of_mem _ ((T.mem j).2 z)⟩, Nat.le_succ_of_le T.few, T.fit, T.ris, T.led⟩

section
variable {P : Program} {w : World} {A : Around} {E : Value → Shared → Prop} {s : Shared} {a : Addr} {L : List Key} {n : Nat}
theorem TabK.elems {es : Array (Int × Value)} {t : SetTable} (T : TabK w L n es t) : ElemsOf (mixKind P w) es.toList := fun e he => let ⟨k, h1, h2⟩ := T.ent e he; ⟨⟨k, h1, h2⟩, scanK h1⟩
theorem put_at {h : Heap} {o : Obj} {es es' : Array (Int × Value)} {ep : Nat} {t t' : SetTable} (x : h.get? a = some o) (y : o.data = .set es ep t) : (h.update a (Obj.putSet es' t')).get? a = some { o with data := .set es' (ep + 1) t' } := by
  have z := putSet_of es' t' y
  rw [← z]
  exact Heap.get?_update_self (Obj.putSet es' t') x (by rw [z]; rfl)
theorem setL_add {k : Key} {v : Value} {Q : Bool → Shared → Prop} (hv : keyIs k v = true) (R : SetL w s.heap a L n) (room : n + 1 < scanBound)
    (hQ : ∀ b h', Heap.SameBut a s.heap h' → SetL w h' a (k :: L) (n + 1) → Q b { s with heap := h' }) :
    wpAny (model P w) A (setAddHashed a v (keyH w k)) Q E s := by
  obtain ⟨o, es, ep, t, x, ex, y, T⟩ := R
  have hsc := scanK hv
  have el := T.elems (P := P)
  have few : es.size < scanBound := Nat.lt_of_le_of_lt T.few (Nat.lt_of_succ_lt room)
  unfold setAddHashed setAddHashedIn
  refine wpAny_holding (wpAny_bind (wpAny_setState_of x y T.fit ?_))
  dsimp only
  rw [byScan_of hsc few el, if_pos rfl]
  unfold setAddByScan
  refine wpAny_bind (wpAny_bind (wpAny_rule (wpAny_bind ?_)))
  refine wpAny_setScan_of (knd := mixKind P w) (k := k) hv x y T.fit el ?_
  cases fi : List.findIdx? (fun e => (mixKind P w).is k e.2) es.toList with
  | some j =>
    dsimp only
    obtain ⟨hj, pj, _⟩ := List.findIdx?_eq_some_iff_getElem.mp fi
    refine wpAny_pure (wpAny_pure (hQ _ s.heap (Heap.SameBut.refl a s.heap) ⟨o, es, ep, t, x, ex, y, T.again ?_⟩))
    exact List.mem_map.mpr ⟨_, List.getElem_mem hj, rdK_of pj⟩
  | none =>
    dsimp only
    have hk : k ∉ es.toList.map kOf := fun z => by
      obtain ⟨e, he, q⟩ := List.mem_map.mp z
      obtain ⟨k', h1, _⟩ := T.ent e he
      have h2 := rdK_of h1
      have h3 : k' = k := h2.symm.trans q
      have c := List.findIdx?_eq_none_iff.mp fi e he
      rw [← h3] at c
      exact absurd (h1.symm.trans c) (by decide)
    have hg : ∀ (b : Bool) {s' : Shared} {U : Unit → Shared → Prop}, U () s' → wpAny (model P w) A (match b with | true => rule "set.scan.the-table-gave-way" | false => pure ()) U E s' := fun b s' U u => by
      cases b
      · exact wpAny_pure u
      · exact wpAny_rule u
    have p1 := layNew_perm t es (keyH w k) v
    have f1 := layNew_fits t es (keyH w k) v
    have r1 := layNew_ris t es (keyH w k) v T.ris
    have l1 := layNew_led t es (keyH w k) v
    generalize layNew t es (keyH w k) v = Z at p1 f1 r1 l1 ⊢
    obtain ⟨es1, t1, wd, gv⟩ := Z
    dsimp only at p1 f1 r1 l1 ⊢
    rw [Array.toList_push] at p1
    have pc := p1.trans (List.perm_append_singleton _ _)
    have b1 : es1.size < scanBound := Nat.lt_of_le_of_lt (T.more hv hk pc f1 r1 l1).few room
    have store : ∀ t2 : SetTable, t2.fits es1.size = true → Ris t2.place.toList → t2.led = t.led → ∀ {c : Bool} {K : Bool → Sem Unit}, (∀ (b : Bool) (s' : Shared) (U : Unit → Shared → Prop), U () s' → wpAny (model P w) A (K b) U E s') →
        wpAny (model P w) A (storeSet a es1 t2 >>= fun _ => if c = true then K (relayAll t2 es1 (SetTable.grown es1.size)).2.2 >>= fun _ => storeSet a (relayAll t2 es1 (SetTable.grown es1.size)).1 (relayAll t2 es1 (SetTable.grown es1.size)).2.1 >>= fun _ => pure (some true) else pure (some true))
          (fun r s' => ∃ h', r = some true ∧ s' = { s with heap := h' } ∧ Heap.SameBut a s.heap h' ∧ SetL w h' a (k :: L) (n + 1)) E s := fun t2 f2 r2 l2 c K hK => by
      have T2 := T.more hv hk pc f2 r2 l2
      refine wpAny_bind (wpAny_storeSet_of x y ?_ (fits_of_scanBound b1))
      have x1 := put_at (es' := es1) (t' := t2) x y
      have sb := Heap.SameBut.update s.heap a (Obj.putSet es1 t2)
      cases c with
      | false => exact wpAny_pure ⟨_, rfl, rfl, sb, _, es1, _, t2, x1, ex, rfl, T2⟩
      | true =>
        rw [if_pos rfl]
        have p3 := relayAll_perm t2 es1 (SetTable.grown es1.size)
        have f3 := relayAll_fits t2 es1 (SetTable.grown es1.size)
        have r3 := relayAll_ris t2 es1 (SetTable.grown es1.size)
        have l3 := relayAll_led t2 es1 (SetTable.grown es1.size)
        generalize relayAll t2 es1 (SetTable.grown es1.size) = Y at p3 f3 r3 l3 ⊢
        obtain ⟨es2, t3, gw⟩ := Y
        dsimp only at p3 f3 r3 l3 ⊢
        have z2 : es2.size < scanBound := by rw [← Array.length_toList, p3.length_eq, Array.length_toList]; exact b1
        refine wpAny_bind (hK _ _ _ (wpAny_bind (wpAny_storeSet_of x1 rfl (wpAny_pure ?_) (fits_of_scanBound z2))))
        exact ⟨_, rfl, rfl, sb.trans (Heap.SameBut.update _ a _), _, es2, _, t3, put_at (es' := es2) (t' := t3) x1 rfl, ex, rfl, T2.perm p3 f3 r3 l3⟩
    refine wpAny_bind (hg _ ?_)
    split
    · refine wpAny_bind ?_
      rw [hashByValue_scannable 8 hsc]
      refine wpAny_pure ?_
      refine wpAny_mono (store _ ?_ ?_ ?_ fun b s' U u => hg b u) (fun r s' z => ?_) fun _ _ e => e
      · first | (split <;> first | exact f1 | exact SetTable.fits_plain_off f1) | exact f1
      · first | (split <;> exact r1) | exact r1
      · first | (split <;> exact l1) | exact l1
      · obtain ⟨h', rfl, rfl, sb, R'⟩ := z
        exact wpAny_pure (hQ _ h' sb R')
    · refine wpAny_bind (wpAny_pure ?_)
      try rw [if_pos rfl]
      refine wpAny_mono (store t1 f1 r1 l1 fun b s' U u => hg b u) (fun r s' z => ?_) fun _ _ e => e
      obtain ⟨h', rfl, rfl, sb, R'⟩ := z
      exact wpAny_pure (hQ _ h' sb R')
end
end DL
/-! DXl: set(list), and its sorted list. -/
namespace DL
open PySem PySem.Spec PyProof.Rows L2

/-- values that carry the keys ks -/
def CarK (us : List Value) (ks : List Key) : Prop := Paired (fun u k => keyIs k u = true) us ks
theorem carK_get {us : List Value} {ks : List Key} (h : CarK us ks) : ∀ {i : Nat} {v : Value}, us[i]? = some v → ∃ k, ks[i]? = some k ∧ keyIs k v = true := by
  induction h with
  | nil => intro i v e; cases i <;> cases e
  | cons r t ih =>
    intro i v e
    cases i with
    | zero => cases e; exact ⟨_, rfl, r⟩
    | succ i => exact ih e
theorem setL_congr {w : World} {h : Heap} {a : Addr} {L L' : List Key} {n n' : Nat} (R : SetL w h a L n) (hn : n ≤ n') (e : ∀ k, k ∈ L' ↔ k ∈ L) : SetL w h a L' n' :=
  let ⟨o, es, ep, t, x, ex, y, T⟩ := R
  ⟨o, es, ep, t, x, ex, y, ⟨T.ent, T.nd, fun k => (e k).trans (T.mem k), Nat.le_trans T.few hn, T.fit, T.ris, T.led⟩⟩
theorem setL_new {w : World} {h : Heap} {a : Addr} (x : h.get? a = some { cls := .type "set", dict := none, data := .set #[] 0 (.fresh 0 0 (!w.params.followText "set-order")) }) : SetL w h a [] 0 := by
  refine ⟨_, #[], 0, _, x, ⟨rfl, rfl, rfl⟩, rfl, ⟨fun e he => by simp at he, by simp, fun k => by simp, Nat.le_refl _, by rfl, List.Pairwise.nil, ?_⟩⟩
  cases e : w.params.followText "set-order" with
  | true => exact Or.inl rfl
  | false => exact Or.inr rfl
section
variable {P : Program} {w : World} {A : Around} {E : Value → Shared → Prop} {s : Shared}
theorem addAll {I : Addr} {fp wr : List Addr} {G : Array GenState → Array GenState → Prop} {Pv : Nat → Value → Prop} {St : Nat → Shared → Prop} {U : Result → Shared → Prop} (ks : List Key)
    (W : WalksS P w A.in1 I fp wr G ks.length Pv St) (b : Addr) (hb : b ∉ fp) (few : ks.length + 1 < scanBound) (hv : ∀ i v, Pv i v → ∃ k, ks[i]? = some k ∧ keyIs k v = true) :
    ∀ (m i : Nat) (s : Shared), ks.length - i = m → i ≤ ks.length → St i s → SetL w s.heap b (ks.take i) i → (∀ s', Moved (b :: wr) G s s' → SetL w s'.heap b ks ks.length → U (.ok (.ret .none)) s') →
      codeAny (model P w) A (.builtin "set.update.loop" ⟨[.ref b, .ref I], []⟩) U s := by
  have hw : b ∉ wr := fun z => hb (W.sub _ z)
  have sub : ∀ c ∈ wr, c ∈ b :: wr := fun c z => List.mem_cons_of_mem _ z
  intro m
  induction m with
  | zero =>
    intro i s e hi st R hU
    obtain rfl : i = ks.length := by omega
    rw [List.take_length] at R
    refine codeAny_builtin F.entry_set_update_loop ?_
    rw [Around.under_plainId F.plain_set_update_loop _]; show wpAny _ A.in1 (pyNext (.ref I) >>= _) _ _ s
    exact wpAny_bind (W.done s _ _ st fun s' mv => wpAny_pure (hU s' (mv.mono sub) (R.keep fun o e => mv.heap b o hw e)))
  | succ m ih =>
    intro i s e hi st R hU
    have lt : i < ks.length := by omega
    refine codeAny_builtin F.entry_set_update_loop ?_
    rw [Around.under_plainId F.plain_set_update_loop _]; show wpAny _ A.in1 (pyNext (.ref I) >>= _) _ _ s
    refine wpAny_bind (W.item i s _ _ lt st fun v s' hp st' mv => ?_)
    obtain ⟨k, hk, ik⟩ := hv i v hp
    have R' := R.keep fun o e => mv.heap b o hw e
    show wpAny _ A.in1 (holding [v] (setAdd b v) >>= _) _ _ s'
    refine wpAny_bind (wpAny_holding ?_)
    unfold setAdd
    refine wpAny_holding (wpAny_bind ((mixKind P w).pyHash (k := k) ik ?_))
    refine setL_add (s := { s' with toks := s'.toks + 1 }) ik R' (by omega) fun bb h' sb R2 => ?_
    have R3 : SetL w h' b (ks.take (i + 1)) (i + 1) := setL_congr R2 (Nat.le_refl _) fun j => by
      rw [List.take_add_one, hk]
      simp only [Option.toList_some, List.mem_append, List.mem_singleton, List.mem_cons, List.not_mem_nil, or_false]
      exact Or.comm
    refine wpAny_pure ⟨plainId_quiet F.plain_set_update_loop _, ih (i + 1) _ (by omega) lt (W.frame _ s' _ _ st' (Nat.le_succ _) fun c hc o q => ?_) R3 fun s2 mv2 R4 => ?_⟩
    · rw [sb.2 c fun z : c = b => hb (z ▸ hc)]
      exact q
    · refine hU s2 (Moved.trans W.gtrans ((mv.mono sub).then_heap (Nat.le_succ _) fun c o hc q => ?_) mv2) R4
      rw [sb.2 c fun z : c = b => hc (z ▸ List.mem_cons_self)]
      exact q

/-- set(xs), xs a list -/
theorem call_setL {l : Addr} {items : Array Value} (ks : List Key) {Q : Value → Shared → Prop} (hh : A.handled = none) (hl : s.heap.IsList l items) (hi : CarK items.toList ks) (few : ks.length + 1 < scanBound)
    (k : ∀ (h' : Heap) (tk : Nat), SetL w h' s.heap.objs.size ks ks.length → (∀ b o, s.heap.get? b = some o → h'.get? b = some o) → Q (.ref s.heap.objs.size) { s with heap := h', toks := tk }) :
    wpAny (model P w) A (call (.type "set") [.ref l]) Q E s := by
  have sz : items.size = ks.length := by rw [← Array.length_toList]; exact hi.length
  obtain ⟨c, tl, hmro⟩ := F.called_set.mro
  have hmade := F.called_set.made; have hsub := F.called_set.sub
  refine wpAny_call (codeAny_of_tree (show wpAny _ _ (callAny (.type "set") _) _ _ _ from wpAny_pure ⟨Code.quiet_builtin _ (by decide +kernel), codeAny_builtin F.entry_type_call ?_⟩))
  rw [Around.under_plain (weight_type_call_type "set" [.ref l] []) rfl]
  have h1 := F.called_set.notType; have h2 := F.called_set.canCreate; have hct := F.typeCall_set_1 (.ref l)
  repeat (any_goals (first | assumption | wp_step))
  generalize hob : ({ cls := .type "set", dict := none, data := .set #[] 0 (.fresh 0 0 (!w.params.followText "set-order")) } : Obj) = ob
  refine codeAny_mono (code_set_led1 (.ref l) (E := E) (Q₁ := fun r s₁ => r = .ref s.heap.objs.size ∧ s₁ = { s with heap := s.heap.push ob }) ⟨rfl, by rw [← hob]⟩) fun r s₁ hr => ?_
  cases r with
  | error e => exact hr
  | ok fl =>
    cases fl with
    | ret r =>
      obtain ⟨rfl, rfl⟩ := hr
      have hfr : ob.isFreed = false := by rw [← hob]; rfl
      have hcl : ob.cls = .type "set" := by rw [← hob]
      have gS : (s.heap.push ob).get? s.heap.objs.size = some ob := Heap.get?_push_size _ hfr
      have tS : Shared.TypeIs { s with heap := s.heap.push ob } (.ref s.heap.objs.size) "set" := ⟨_, gS, hcl⟩
      have hli := F.called_set.init.lookup; have hbi := F.called_set.init.bind (.ref s.heap.objs.size)
      repeat (any_goals (first | assumption | wp_step))
      refine codeAny_mono (codeAny_call_builtin (R := wants (fun r s₂ => r = .none ∧ ∃ h' tk, s₂ = { s with heap := h', toks := tk } ∧ SetL w h' s.heap.objs.size ks ks.length ∧ ∀ b o, s.heap.get? b = some o → h'.get? b = some o) E)
        F.called_set.init.plain F.entry_set_init (check_set_init_1 tS ?_)) fun r₂ s₂ hr₂ => ?_
      · subst hob
        obtain ⟨⟨ocls, odict, odata, oslots⟩, hol, c1, nl, c2⟩ := hl
        simp only at c1 c2; subst c1; subst c2
        have hol' : (s.heap.push { cls := .type "set", dict := none, data := .set #[] 0 (.fresh 0 0 (!w.params.followText "set-order")) }).get? l = some { cls := .type "list", dict := odict, data := .seq items nl, slots := oslots } := Heap.get?_push_of_some _ hol
        have hsls := F.sub_list_set; have hslf := F.sub_list_frozenset
        have hne : (Value.type "list" == Value.type "dict") = false := by decide
        have hl1 : (s.heap.push { cls := .type "set", dict := none, data := .set #[] 0 (.fresh 0 0 (!w.params.followText "set-order")) }).IsList l items := ⟨_, hol', rfl, nl, rfl⟩
        unfold Builtin.«set.__init__» noKeywords Builtin.Frozenset.updateFrom
        generalize hPI : pyIter = PI
        wp_walk
        subst hPI
        refine wpAny_pyIter_list hl1 ?_
        refine wpAny_bind (wpAny_runValue ?_) -- the update
        have lt : l < s.heap.objs.size := Heap.lt_size hol
        have hh3 : A.in1.in1.in1.handled = none := by simp [hh]
        have z1 : (s.heap.push { cls := .type "set", dict := none, data := .set #[] 0 (.fresh 0 0 (!w.params.followText "set-order")) }).objs.size = s.heap.objs.size + 1 := Heap.size_push ..
        have n1 : l ≠ (s.heap.push { cls := .type "set", dict := none, data := .set #[] 0 (.fresh 0 0 (!w.params.followText "set-order")) }).objs.size := Nat.ne_of_lt (by rw [z1]; exact Nat.lt_succ_of_lt lt)
        have n2 : s.heap.objs.size ∉ [(s.heap.push { cls := .type "set", dict := none, data := .set #[] 0 (.fresh 0 0 (!w.params.followText "set-order")) }).objs.size, l] := by
          simp only [List.mem_cons, List.mem_singleton, List.not_mem_nil, or_false, not_or]
          exact ⟨Nat.ne_of_lt (by rw [z1]; exact Nat.lt_succ_self _), Nat.ne_of_gt lt⟩
        have W := (Walks.list (prog := P) (w := w) (A := A.in1.in1.in1) hh3 (s.heap.push { cls := .type "set", dict := none, data := .set #[] 0 (.fresh 0 0 (!w.params.followText "set-order")) }).objs.size l n1 items).toS
        rw [sz] at W
        refine addAll ks W s.heap.objs.size n2 few (fun i v hv => carK_get hi (by rw [Array.getElem?_toList]; exact hv)) (ks.length - 0) 0 _ (by omega) (Nat.zero_le _) ⟨⟨_, Heap.get?_push_size _ rfl, rfl, rfl⟩, hl1.push _⟩ ?_ ?_
        · refine setL_new ?_
          exact Heap.get?_push_of_some _ gS
        · intro s' mv R
          obtain ⟨h', g2, d', tk', os'⟩ := s'
          obtain rfl : g2 = s.gens := mv.gens
          obtain rfl : d' = s.drawn := mv.drawn
          obtain rfl : os' = s.os := mv.os
          refine wpAny_pure (show wpAny _ _ (ret Value.none) _ _ _ from wpAny_pure ⟨rfl, h', tk', rfl, R, fun b o e => ?_⟩)
          have lb : b < s.heap.objs.size := Heap.lt_size e
          refine mv.heap b o ?_ (Heap.get?_push_of_some _ (Heap.get?_push_of_some _ e))
          simp only [List.mem_cons, List.mem_singleton, List.not_mem_nil, or_false, not_or]
          exact ⟨Nat.ne_of_lt lb, Nat.ne_of_lt (by rw [z1]; exact Nat.lt_succ_of_lt lb)⟩
      · cases r₂ with
        | error e => exact hr₂
        | ok fl₂ =>
          cases fl₂ with
          | ret r =>
            obtain ⟨rfl, h', tk, rfl, R, hk⟩ := hr₂
            repeat (any_goals (first | assumption | wp_step))
            exact k _ _ R hk
          | _ => exact hr₂.elim
    | _ => exact hr.elim
end
end DL
/-! DXm: sorted(set(list)), texts or whole numbers; sorted(dict). -/
namespace DL
open PySem PySem.Spec PyProof.Rows L2

def strV : Value → Str
  | .str x _ => x
  | _ => ⟨#[]⟩
def intV : Value → Int
  | .int x _ => x
  | _ => 0
theorem strsAre_map : ∀ vs : List Value, (∀ v ∈ vs, ∃ x t, v = Value.str x t) → StrsAre vs (vs.map strV)
  | [], _ => .nil
  | v :: vs, h => by
    obtain ⟨x, t, rfl⟩ := h v List.mem_cons_self
    exact .cons x t (strsAre_map vs fun u hu => h u (List.mem_cons_of_mem _ hu))
theorem intsAre_map : ∀ vs : List Value, (∀ v ∈ vs, ∃ x t, v = Value.int x t) → IntsAre vs (vs.map intV)
  | [], _ => .nil
  | v :: vs, h => by
    obtain ⟨x, t, rfl⟩ := h v List.mem_cons_self
    exact .cons x t (intsAre_map vs fun u hu => h u (List.mem_cons_of_mem _ hu))
theorem carK_of : ∀ {ks : List Key} {us : List Value}, Vals (ks.map kV) us → CarK us ks
  | [], _, h => by
    cases h
    exact .nil
  | k :: ks, _, h => by
    cases h with
    | cons r t =>
      refine .cons ?_ (carK_of t)
      cases k with
      | inl i => obtain ⟨t, rfl⟩ := r; exact keyIs_int i t
      | inr x => obtain ⟨t, rfl⟩ := r; exact keyIs_str x t
section
variable {P : Program} {w : World} {A : Around} {E : Value → Shared → Prop} {s : Shared} {a : Addr} {n : Nat}
theorem sortSetS {xs : List Str} {Q : Value → Shared → Prop} (R : SetL w s.heap a (xs.map Sum.inr) n) (hh : A.handled = none) (h64 : n < 64)
    (k : ∀ s' p (us : List Value) (c : Nat) (ys : List Str), (∀ b o, s.heap.get? b = some o → s'.heap.get? b = some o) → s'.gens = s.gens → s'.os = s.os → s.heap.objs.size ≤ p →
      s'.heap.get? p = some (seqObj "list" us.toArray c) → StrsAre us ys → sortedS ys = true → ys.Nodup → (∀ x, x ∈ ys ↔ x ∈ xs) → ys.length < 64 → Q (.ref p) s') :
    wpAny (model P w) A (call (.builtin "sorted") [.ref a]) Q E s := by
  obtain ⟨o, es, ep, t, ho, hx, hd, T⟩ := R
  have few : es.size < scanBound := Nat.lt_of_le_of_lt T.few (Nat.lt_trans h64 (by decide))
  refine Calls.call_function_entry kind_sorted plain_sorted entry_sorted (args_sorted1 _) ?_
  unfold Builtin.«sorted»
  refine wpAny_bind (m := checkCount "sorted" 1 1 _) (wpAny_pure (wpAny_bind ?_))
  refine collect_set (A := A.in1) hh ⟨o, ho, hx.1, hd⟩ T.fit few T.ris T.led fun s1 vs k1 hz g1 o1 pm => ?_
  have ent : ∀ v ∈ vs, ∃ x t, v = Value.str x t := fun v hv => by
    obtain ⟨e, he, rfl⟩ := List.mem_map.mp (pm.mem_iff.mp hv)
    obtain ⟨q, h1, _⟩ := T.ent e he
    obtain ⟨x, _, e2⟩ := List.mem_map.mp ((T.mem q).2 (List.mem_map.mpr ⟨e, he, rdK_of h1⟩))
    rw [← e2] at h1
    exact ⟨x, Value.isStrOf_shape h1⟩
  have hS := strsAre_map vs ent
  have hl : vs.length ≤ n := by rw [pm.length_eq, List.length_map, Array.length_toList]; exact T.few
  have pk : ((vs.map strV).map Sum.inr : List Key).Perm (es.toList.map kOf) := by
    have e : ((vs.map strV).map Sum.inr : List Key) = vs.map rdK := by
      rw [List.map_map]
      refine List.map_congr_left fun v hv => ?_
      obtain ⟨x, t, rfl⟩ := ent v hv
      rfl
    rw [e]
    have q := pm.map rdK
    rw [List.map_map] at q
    exact q
  refine wpAny_bind (wpAny_newList ?_ (by rw [sizeLine_eq]; omega))
  have hoL : (s1.heap.push (seqObj "list" vs.toArray 0)).get? s1.heap.objs.size = some (seqObj "list" vs.toArray 0) := Heap.get?_push_size _ rfl
  refine wpAny_bind (wpAny_holding (wpAny_call_entry slot_list_sort ⟨_, hoL, rfl⟩ entry_list_sort (list_sort_treeK strKind_oneLt (s := { s1 with heap := s1.heap.push (seqObj "list" vs.toArray 0) }) hoL hS.keysOf
    (fun v₁ v₂ rest e => keyKind_strs (by rw [← e]; exact hS)) (by omega) fun st' hp hs => ⟨_, rfl, ?_⟩) (args_list_sort _)))
  obtain ⟨ys, q1, q2, q3⟩ := sorted_out_str hS hp hs
  obtain ⟨c, hc⟩ := sortedHeap_at (vs := vs) (out := (arrOf st').map (·.2)) hoL
  have py := (q2.map (Sum.inr : Str → Key)).trans pk
  have nd : ys.Nodup := List.Pairwise.of_map Sum.inr (fun x y hne e => hne (congrArg _ e)) (py.nodup_iff.mpr T.nd)
  refine wpAny_pure ⟨_, rfl, k _ s1.heap.objs.size ((arrOf st').map (·.2)).toList c ys (fun b u e => ?_) g1 o1 hz (by rw [Array.toArray_toList]; exact hc) q1 q3 nd (fun x => ?_) ?_⟩
  · have q := k1 b u e
    have lt := Heap.lt_size q
    show (sortedHeap (s1.heap.push (seqObj "list" vs.toArray 0)) s1.heap.objs.size vs ((arrOf st').map (·.2))).get? b = some u
    rw [sortedHeap_old (Nat.ne_of_lt lt) (by rw [size_push']; exact Nat.lt_succ_of_lt lt)]
    exact Heap.get?_push_of_some _ q
  · have e1 : x ∈ ys ↔ (Sum.inr x : Key) ∈ ys.map Sum.inr := ⟨fun z => List.mem_map.mpr ⟨x, z, rfl⟩, fun z => by obtain ⟨y, hy, e⟩ := List.mem_map.mp z; cases e; exact hy⟩
    have e2 : x ∈ xs ↔ (Sum.inr x : Key) ∈ xs.map Sum.inr := ⟨fun z => List.mem_map.mpr ⟨x, z, rfl⟩, fun z => by obtain ⟨y, hy, e⟩ := List.mem_map.mp z; cases e; exact hy⟩
    rw [e1, e2, py.mem_iff, T.mem]
  · rw [q2.length_eq, List.length_map]
    omega
theorem sortSetI {xs : List Int} {Q : Value → Shared → Prop} (R : SetL w s.heap a (xs.map Sum.inl) n) (hh : A.handled = none) (h64 : n < 64)
    (k : ∀ s' p (us : List Value) (c : Nat) (ys : List Int), (∀ b o, s.heap.get? b = some o → s'.heap.get? b = some o) → s'.gens = s.gens → s'.os = s.os → s.heap.objs.size ≤ p →
      s'.heap.get? p = some (seqObj "list" us.toArray c) → IntsAre us ys → ys.Pairwise (· ≤ ·) → ys.Nodup → (∀ x, x ∈ ys ↔ x ∈ xs) → ys.length < 64 → Q (.ref p) s') :
    wpAny (model P w) A (call (.builtin "sorted") [.ref a]) Q E s := by
  obtain ⟨o, es, ep, t, ho, hx, hd, T⟩ := R
  have few : es.size < scanBound := Nat.lt_of_le_of_lt T.few (Nat.lt_trans h64 (by decide))
  refine Calls.call_function_entry kind_sorted plain_sorted entry_sorted (args_sorted1 _) ?_
  unfold Builtin.«sorted»
  refine wpAny_bind (m := checkCount "sorted" 1 1 _) (wpAny_pure (wpAny_bind ?_))
  refine collect_set (A := A.in1) hh ⟨o, ho, hx.1, hd⟩ T.fit few T.ris T.led fun s1 vs k1 hz g1 o1 pm => ?_
  have ent : ∀ v ∈ vs, ∃ x t, v = Value.int x t := fun v hv => by
    obtain ⟨e, he, rfl⟩ := List.mem_map.mp (pm.mem_iff.mp hv)
    obtain ⟨q, h1, _⟩ := T.ent e he
    obtain ⟨x, _, e2⟩ := List.mem_map.mp ((T.mem q).2 (List.mem_map.mpr ⟨e, he, rdK_of h1⟩))
    rw [← e2] at h1
    exact ⟨x, Value.isInt_shape h1⟩
  have hS := intsAre_map vs ent
  have hl : vs.length ≤ n := by rw [pm.length_eq, List.length_map, Array.length_toList]; exact T.few
  have pk : ((vs.map intV).map Sum.inl : List Key).Perm (es.toList.map kOf) := by
    have e : ((vs.map intV).map Sum.inl : List Key) = vs.map rdK := by
      rw [List.map_map]
      refine List.map_congr_left fun v hv => ?_
      obtain ⟨x, t, rfl⟩ := ent v hv
      rfl
    rw [e]
    have q := pm.map rdK
    rw [List.map_map] at q
    exact q
  refine wpAny_bind (wpAny_newList ?_ (by rw [sizeLine_eq]; omega))
  have hoL : (s1.heap.push (seqObj "list" vs.toArray 0)).get? s1.heap.objs.size = some (seqObj "list" vs.toArray 0) := Heap.get?_push_size _ rfl
  refine wpAny_bind (wpAny_holding (wpAny_call_entry slot_list_sort ⟨_, hoL, rfl⟩ entry_list_sort (list_sort_tree hoL hS (by omega) fun out ys q1 q2 q3 => ⟨_, rfl, ?_⟩) (args_list_sort _)))
  obtain ⟨c, hc⟩ := sortedHeap_at (vs := vs) (out := out) hoL
  have py := (q2.map (Sum.inl : Int → Key)).trans pk
  have nd : ys.Nodup := List.Pairwise.of_map Sum.inl (fun x y hne e => hne (congrArg _ e)) (py.nodup_iff.mpr T.nd)
  refine wpAny_pure ⟨_, rfl, k _ s1.heap.objs.size out.toList c ys (fun b u e => ?_) g1 o1 hz (by rw [Array.toArray_toList]; exact hc) q1 q3 nd (fun x => ?_) ?_⟩
  · have q := k1 b u e
    have lt := Heap.lt_size q
    show (sortedHeap (s1.heap.push (seqObj "list" vs.toArray 0)) s1.heap.objs.size vs out).get? b = some u
    rw [sortedHeap_old (Nat.ne_of_lt lt) (by rw [size_push']; exact Nat.lt_succ_of_lt lt)]
    exact Heap.get?_push_of_some _ q
  · have e1 : x ∈ ys ↔ (Sum.inl x : Key) ∈ ys.map Sum.inl := ⟨fun z => List.mem_map.mpr ⟨x, z, rfl⟩, fun z => by obtain ⟨y, hy, e⟩ := List.mem_map.mp z; cases e; exact hy⟩
    have e2 : x ∈ xs ↔ (Sum.inl x : Key) ∈ xs.map Sum.inl := ⟨fun z => List.mem_map.mpr ⟨x, z, rfl⟩, fun z => by obtain ⟨y, hy, e⟩ := List.mem_map.mp z; cases e; exact hy⟩
    rw [e1, e2, py.mem_iff, T.mem]
  · rw [q2.length_eq, List.length_map]
    omega
end
/-! ### the calls -/
def SetH (w : World) (a : Addr) (L : List Key) (n : Nat) : HO := .ext fun h => SetL w h a L n
section
variable {X : Cx}
theorem setH_ok {P : Program} {H : Hp} {h : Heap} {w : World} {a : Addr} {L : List Key} {n : Nat} (R : SetL w h a L n) : ObjOk P w H h a (SetH w a L n) :=
  ⟨R, let ⟨o, _, _, _, ho, _⟩ := R; ⟨o, ho⟩, fun _ _ p k => SetL.keep p k⟩
theorem setH_at {pins : List (Addr × Obj)} {σ : L2.St} {H : Hp} {s : Shared} {a : Addr} {L : List Key} {n : Nat} (I : Inv X pins σ H s) (ha : H a = some (SetH X.w a L n)) : SetL X.w s.heap a L n := (I.hok a _ ha).1
def rSetL (K : PySem.W.Frag) (w : World) : List V → Hp → VK → Prop := fun vs H Q => ∃ (l : Addr) (ks : List Key), vs = [.ref l] ∧ SqL K H l (ks.map kV) ∧ ks.length < 64 ∧ ∀ p, H p = none → Q (.ref p) (upd H p (SetH w p ks ks.length))
theorem cr_setL (hc : X.calm = true) : CallR X (.type "set") (rSetL X.K X.w) := by
  intro pins s σ H vs us Q I r h
  obtain ⟨l, ks, rfl, hs, h64, q⟩ := h
  obtain ⟨its, rv, hl, _⟩ := I.list hs
  rw [Vals.ref1 r]
  refine call_setL ks (I.ok.hd hc) hl.isList (by simpa using carK_of rv) (Nat.lt_trans (Nat.succ_lt_succ h64) (by decide)) fun h' tk R k => ?_
  exact ⟨.ref _, _, I.laid k (Nat.le_refl _) (setH_ok R), rfl, q _ (I.hok.fresh (Nat.le_refl _))⟩
def rSorSet (w : World) : List V → Hp → VK → Prop := fun vs H Q => ∃ (a : Addr) (n : Nat), vs = [.ref a] ∧ n < 64 ∧
  ((∃ xs : List Str, H a = some (SetH w a (xs.map Sum.inr) n) ∧ ∀ (ys : List Str) p, sortedS ys = true → ys.Nodup → (∀ x, x ∈ ys ↔ x ∈ xs) → H p = none → Q (.ref p) (upd H p (.lst (ys.map V.str)))) ∨
   (∃ xs : List Int, H a = some (SetH w a (xs.map Sum.inl) n) ∧ ∀ (ys : List Int) p, ys.Pairwise (· ≤ ·) → ys.Nodup → (∀ x, x ∈ ys ↔ x ∈ xs) → H p = none → Q (.ref p) (upd H p (.lst (ys.map V.int)))))
theorem cr_sorSet (hc : X.calm = true) : CallR X (.builtin "sorted") (rSorSet X.w) := by
  intro pins s σ H vs us Q I r h
  obtain ⟨a, n, rfl, h64, h⟩ := h
  rw [Vals.ref1 r]
  rcases h with ⟨xs, ha, q⟩ | ⟨xs, ha, q⟩
  · refine sortSetS (setH_at I ha) (I.ok.hd hc) h64 fun s' p us c ys k g o hp hg hi hs hn hm hl => ?_
    have hlen : (ys.map V.str).length ≤ sizeLine := by rw [List.length_map, sizeLine_eq]; omega
    have hn0 : H p = none := I.hok.fresh hp
    have J : Inv X pins σ (upd H p (.lst (ys.map V.str))) { s with heap := s'.heap, gens := s'.gens, drawn := s'.drawn, toks := s'.toks } :=
      I.call (ch := []) (Un.laid k hp hn0) (I.hok.laid k hp ⟨hlen, us, c, vals_of_strs hi, hg⟩) (by rw [g]; exact I.bare) fun _ z => nomatch z
    have e : s' = { s with heap := s'.heap, gens := s'.gens, drawn := s'.drawn, toks := s'.toks } := by cases s'; cases s; cases o; rfl
    rw [e]
    exact ⟨.ref p, _, J, rfl, q ys p hs hn hm hn0⟩
  · refine sortSetI (setH_at I ha) (I.ok.hd hc) h64 fun s' p us c ys k g o hp hg hi hs hn hm hl => ?_
    have hlen : (ys.map V.int).length ≤ sizeLine := by rw [List.length_map, sizeLine_eq]; omega
    have hn0 : H p = none := I.hok.fresh hp
    have J : Inv X pins σ (upd H p (.lst (ys.map V.int))) { s with heap := s'.heap, gens := s'.gens, drawn := s'.drawn, toks := s'.toks } :=
      I.call (ch := []) (Un.laid k hp hn0) (I.hok.laid k hp ⟨hlen, us, c, vals_of_ints hi, hg⟩) (by rw [g]; exact I.bare) fun _ z => nomatch z
    have e : s' = { s with heap := s'.heap, gens := s'.gens, drawn := s'.drawn, toks := s'.toks } := by cases s'; cases s; cases o; rfl
    rw [e]
    exact ⟨.ref p, _, J, rfl, q ys p hs hn hm hn0⟩
end
end DL
/-! DXn: sorted(d.items()), the keys texts. -/
namespace DL
open PySem PySem.Spec PyProof.Rows L2

/-- the text at the head of the tuple at v -/
def hdT (h : Heap) (v : Value) : Str := DT.txOf (DT.seqAt0 h (DT.refOf (some v)))
theorem hdT_of {h : Heap} {b : Addr} {y : Str} {t : Tok} {x : Value} (e : h.get? b = some { cls := .type "tuple", data := .seq #[.str y t, x] }) : hdT h (.ref b) = y := by
  show DT.txOf (DT.seqAt0 h b) = y
  rw [DT.seqAt0_of (items := #[.str y t, x]) ⟨_, e, rfl, _, rfl⟩]
  rfl
def ltHd (h : Heap) (v u : Value) : Bool := !leS (hdT h u) (hdT h v)
theorem ltHd_swo (h : Heap) : SrtO.Swo (ltHd h) := by
  refine ⟨fun x y q => ?_, fun x y z q1 q2 => ?_⟩
  · unfold ltHd at q ⊢
    rcases leS_tot (hdT h x) (hdT h y) with e | e
    · rw [e]; rfl
    · rw [e] at q
      cases q
  · unfold ltHd at q1 q2 ⊢
    have e1 : leS (hdT h x) (hdT h y) = true := by simpa using q1
    have e2 : leS (hdT h y) (hdT h z) = true := by simpa using q2
    rw [leS_tr _ _ _ e1 e2]
    rfl
theorem ltHd_no {h : Heap} {v u : Value} (q : ltHd h v u = false) : leS (hdT h u) (hdT h v) = true := by
  unfold ltHd at q
  simpa using q
/-- the tuple of a text and another thing at b -/
def PrAt (h : Heap) (v : Value) : Prop := ∃ (b : Addr) (y : Str) (t : Tok) (x : Value), v = .ref b ∧ h.get? b = some { cls := .type "tuple", data := .seq #[.str y t, x] }
theorem firstsT {h : Heap} : ∀ l : List Value, (∀ v ∈ l, PrAt h v) → ∃ fs : List Value, PySem.W.KatTups h l fs ∧ fs.length = l.length ∧ ∀ f ∈ fs, ∃ y t, f = Value.str y t
  | [], _ => ⟨[], PySem.W.KatTups.nil, rfl, fun _ z => nomatch z⟩
  | v :: l, q => by
    obtain ⟨fs, k, hl, hf⟩ := firstsT l fun u hu => q u (List.mem_cons_of_mem _ hu)
    obtain ⟨b, y, t, x, rfl, e⟩ := q v List.mem_cons_self
    refine ⟨.str y t :: fs, PySem.W.KatTups.cons e rfl rfl rfl k, by rw [List.length_cons, List.length_cons, hl], fun f z => ?_⟩
    rcases List.mem_cons.mp z with z | z
    · exact ⟨y, t, z⟩
    · exact hf f z
section
variable {P : Program} {w : World} {A : Around} {E : Value → Shared → Prop} {s : Shared}
theorem eq_self {v : Value} {Q : Bool → Shared → Prop} (hv : (v == v) = true) (h : Q true s) : wpAny (model P w) A (eqBool v v) Q E s := by
  unfold eqBool
  refine wpAny_holding ?_
  rw [if_pos hv]
  exact wpAny_bind (wpAny_rule (wpAny_pure h))
theorem pairs_sortable {h0 : Heap} {a : Addr} {vs : List Value} (h2 : 2 ≤ vs.length) (hp : ∀ v ∈ vs, PrAt s.heap v) (hd : ∀ v ∈ vs, ∀ u ∈ vs, hdT h0 v = hdT h0 u → v = u) (h00 : ∀ v ∈ vs, hdT h0 v = hdT s.heap v) (ha : ∀ v ∈ vs, v ≠ .ref a) :
    SrtO.SortableO P w A s a vs (ltHd h0) := by
  intro h' keep
  have hp' : ∀ v ∈ vs, PrAt h' v ∧ hdT h' v = hdT h0 v := fun v hv => by
    obtain ⟨b, y, t, x, rfl, e⟩ := hp v hv
    have e' := keep b _ (fun z => ha _ hv (by rw [z])) e
    refine ⟨⟨b, y, t, x, rfl, e'⟩, ?_⟩
    rw [hdT_of e', h00 _ hv, hdT_of e]
  obtain ⟨fs, k, hl, hf⟩ := firstsT vs fun v hv => (hp' v hv).1
  refine ⟨tuples' true, fun Q E hq => ?_, fun p q mp mq => ?_⟩
  · refine PySem.W.kat_kind (T := .type "str") k (by omega) (fun f z => ?_) (by decide) ?_
    · obtain ⟨y, t, rfl⟩ := hf f z
      exact PySem.W.Looks.now
    · have e : (Value.type "str" != Value.type "tuple") = true := by decide
      rw [e]
      exact hq
  · show wpAny (model P w) A (keyLt' (tuples' true) p.1 q.1) (fun r s' => s' = _ ∧ r = ltHd h0 p.1 q.1) (fun _ _ => False) _
    have hpq := hd p.1 mp q.1 mq
    obtain ⟨⟨b, y, t, x, e1, g1⟩, d1⟩ := hp' p.1 mp
    obtain ⟨⟨c, z, u, x', e2, g2⟩, d2⟩ := hp' q.1 mq
    have dy : hdT h0 p.1 = y := by rw [← d1, e1]; exact hdT_of g1
    have dz : hdT h0 q.1 = z := by rw [← d2, e2]; exact hdT_of g2
    unfold ltHd
    rw [dy, dz] at hpq ⊢
    rw [e1, e2] at hpq ⊢
    refine PySem.W.kat_lt g1 rfl g2 rfl ?_
    show PySem.W.KatLex P w A true (decide (2 < 2)) _ [(.str y t, .str z u), (x, x')] 0 _
    by_cases yz : y = z
    · have hb : b = c := by
        have z0 := hpq yz
        injection z0
      subst hb
      have g := Option.some.inj (g1.symm.trans g2)
      injection g with _ _ g3 _
      injection g3 with g4 _
      have g5 : [Value.str y t, x] = [Value.str z u, x'] := congrArg Array.toList g4
      injection g5 with g6 g7
      injection g7 with g8 _
      subst yz
      refine PySem.W.kat_cons (wpAny_eqBool_str ?_)
      rw [decide_eq_true (rfl : y = y)]
      refine PySem.W.kat_yes (PySem.W.kat_cons ?_)
      rw [g8]
      refine eq_self (by simp) (PySem.W.kat_yes (PySem.W.kat_nil ⟨rfl, ?_⟩))
      rcases leS_tot y y with e | e <;> rw [e] <;> rfl
    · refine PySem.W.kat_cons (wpAny_eqBool_str ?_)
      rw [decide_eq_false yz]
      refine PySem.W.kat_no ?_
      show wpAny _ _ (oneLt' true _ _) _ _ _
      refine oneLt_str ⟨rfl, ?_⟩
      unfold leS strLt
      simp
end
end DL
/-! DXo: sorted(d.items()) as a call. -/
namespace DL
open PySem PySem.Spec PyProof.Rows L2

theorem paired_at {α β : Type} {F : α → β → Prop} : ∀ {xs : List α} {ys : List β}, Paired F xs ys → ∀ {i : Nat} {y : β}, ys[i]? = some y → ∃ x, xs[i]? = some x ∧ F x y
  | _, _, .nil, i, y, h => by cases i <;> cases h
  | _, _, .cons r t, 0, y, h => by
    cases h
    exact ⟨_, rfl, r⟩
  | _, _, .cons r t, i + 1, y, h => paired_at t h
theorem paired_get' {P : Program} {w : World} : ∀ {es : List DictEntry} {kvs : List (Key × Value)}, Pairs (mixKind P w) es kvs → ∀ {i : Nat} {e : DictEntry}, es[i]? = some e → ∃ q : Key × Value, kvs[i]? = some q ∧ keyIs q.1 e.key = true ∧ e.val = q.2
  | _, _, .nil, i, e, h => by cases i <;> cases h
  | _, _, .cons a b t, 0, e, h => by
    cases h
    exact ⟨_, rfl, a, b⟩
  | _, _, .cons a b t, i + 1, e, h => paired_get' t h
theorem paired_zip {α β γ : Type} (f : α × β → γ) {F : γ → β → Prop} : ∀ (zs : List (α × β)), (∀ z ∈ zs, F (f z) z.2) → Paired F (zs.map f) (zs.map (·.2))
  | [], _ => .nil
  | z :: zs, h => .cons (h z List.mem_cons_self) (paired_zip f zs fun x hx => h x (List.mem_cons_of_mem _ hx))
def rSorIt : List V → Hp → VK → Prop := fun vs H Q => ∃ (p a : Addr) (kvs : List (Key × V)) (ks : List Str), vs = [.ref p] ∧ H p = some (L2.DX.itemsO p a) ∧ H a = some (.dK kvs) ∧ kvs.map (·.1) = ks.map Sum.inr ∧ kvs.length < 64 ∧
  ∀ (H' : Hp) (l : Addr) (ts : List Addr) (qs : List (Key × V)), (∀ b o, H b = some o → H' b = some o) → H l = none → (∀ t ∈ ts, H t = none) → ts.Nodup → l ∉ ts → (∀ b, b ∉ ts → b ≠ l → H' b = H b) → H' l = some (.lst (ts.map V.ref)) →
    Paired (fun (t : Addr) (q : Key × V) => H' t = some (.tup [kV q.1, q.2])) ts qs → qs.Perm kvs → (∃ ys : List Str, qs.map (·.1) = ys.map Sum.inr ∧ ys.Pairwise (fun x y => leS x y = true) ∧ ys.Nodup) → Q (.ref l) H'
section
variable {X : Cx}
/-- tuples that lie there are tracked -/
theorem layTups {pins : List (Addr × Obj)} {σ : L2.St} {s : Shared} {h' : Heap} {tk : Nat} (F : Addr → List V → Prop) {H0 : Hp} (I0 : Inv X pins σ H0 s) : ∀ (L : List Addr) (H1 : Hp), Inv X pins σ H1 { s with heap := h', toks := tk } → L.Nodup →
    (∀ a ∈ L, s.heap.objs.size ≤ a ∧ H1 a = none ∧ ∃ vs, F a vs ∧ ∀ H2, ObjOk X.prog X.w H2 h' a (.tup vs)) →
    ∃ H2, Inv X pins σ H2 { s with heap := h', toks := tk } ∧ (∀ b o, H1 b = some o → H2 b = some o) ∧ (∀ b, b ∉ L → H2 b = H1 b) ∧ ∀ a ∈ L, ∃ vs, F a vs ∧ H2 a = some (.tup vs)
  | [], H1, I1, _, _ => ⟨H1, I1, fun _ _ e => e, fun _ _ => rfl, fun _ h => nomatch h⟩
  | a :: L, H1, I1, hn, h => by
    obtain ⟨hb, hnone, vs, hF, ok⟩ := h a List.mem_cons_self
    have I2 : Inv X pins σ (upd H1 a (.tup vs)) { s with heap := h', toks := tk } := I1.take (h' := h') (t' := tk) (fun b ob _ e => e) (I0.fpOk hb hnone) (ok _)
    obtain ⟨na, nL⟩ := List.nodup_cons.mp hn
    obtain ⟨H2, I3, g, g2, q⟩ := layTups F I0 L (upd H1 a (.tup vs)) I2 nL fun c hc => by
      obtain ⟨c1, c2, c3⟩ := h c (List.mem_cons_of_mem _ hc)
      refine ⟨c1, ?_, c3⟩
      rw [upd_ne fun z : c = a => na (z ▸ hc)]
      exact c2
    refine ⟨H2, I3, fun b o e => g b o (by rw [upd_ne (ne_of_none e hnone)]; exact e), fun b hb => ?_, fun c hc => ?_⟩
    · rw [g2 b fun z => hb (List.mem_cons_of_mem _ z), upd_ne fun z : b = a => hb (z ▸ List.mem_cons_self)]
    · rcases List.mem_cons.mp hc with z | z
      · subst z
        exact ⟨vs, hF, g _ _ upd_same⟩
      · exact q c z
theorem cr_sorIt (hc : X.calm = true) : CallR X (.builtin "sorted") rSorIt := by
  intro pins s σ H xs us Q I r h
  obtain ⟨p, a, kvs, ks, rfl, hp, ha, hks, h64, q⟩ := h
  obtain rfl := Vals.ref1 r
  have view : s.heap.IsItemsView p a := (show ObjOk X.prog X.w H s.heap p (L2.DX.itemsO p a) from I.hok p _ hp).1
  obtain ⟨hz, hs0, vs, kv, hdo⟩ := I.hok a _ ha
  obtain ⟨od, es, ep, ho, hex, hdat, _, hpairs, hnd⟩ := hdo
  have le : es.size = vs.length := by rw [← Array.length_toList]; exact hpairs.length
  have lk : kvs.length = vs.length := Paired.length kv
  have lks : kvs.length = ks.length := by
    have e := congrArg List.length hks
    rw [List.length_map, List.length_map] at e
    exact e
  have sz : ∀ {n : Nat}, n = kvs.length → n ≤ sizeLine := fun e => by rw [sizeLine_eq]; omega
  have hh : X.A.handled = none := I.ok.hd hc
  refine Calls.call_function_entry kind_sorted plain_sorted entry_sorted (args_sorted1 _) ?_
  unfold Builtin.«sorted»
  refine wpAny_bind (m := checkCount "sorted" 1 1 _) (wpAny_pure (wpAny_bind ?_))
  refine DT.collectI (A := X.A.in1) (es := es) (ep := ep) hh view ⟨od, ho, hex, hdat⟩ (sz (le.trans lk.symm)) fun h' tk as hk hlt hl hG => ?_
  have lak : as.length = kvs.length := by omega
  have nd : as.Nodup := List.Pairwise.imp (fun h => Nat.ne_of_lt h) hG.rise
  have low : ∀ b ∈ as, s.heap.objs.size ≤ b := fun b hb => Nat.le_of_lt (hG.above b hb)
  -- the pairs that were made
  have pr : ∀ (j : Nat) (b : Addr), as[j]? = some b → ∃ (e : Key × V) (y : Str) (t : Tok) (x : Value), kvs[j]? = some e ∧ ks[j]? = some y ∧ e.1 = .inr y ∧ RelV e.2 x ∧ h'.get? b = some { cls := .type "tuple", data := .seq #[.str y t, x] } := fun j b hj => by
    obtain ⟨en, e1, e3⟩ := hG.pairs j b hj
    obtain ⟨key, x, k, rfl, rfl, e1, e2⟩ : ∃ key x k, en.key = key ∧ en.val = x ∧ vs[j]? = some (k, x) ∧ keyIs k key = true := by
      obtain ⟨kv', f1, f2, f3⟩ := paired_get' hpairs (by rw [Array.getElem?_toList]; exact e1)
      exact ⟨_, _, kv'.1, rfl, rfl, by rw [f1]; exact congrArg some (Prod.ext rfl f3.symm), f2⟩
    obtain ⟨e, g1, g2, g3⟩ := paired_at kv e1
    have g4 : (kvs.map (·.1))[j]? = some e.1 := by rw [List.getElem?_map, g1]; rfl
    rw [hks, List.getElem?_map] at g4
    cases hy : ks[j]? with
    | none => rw [hy] at g4; cases g4
    | some y =>
      rw [hy] at g4
      have g5 : Sum.inr y = e.1 := Option.some.inj g4
      have g6 : k = Sum.inr y := g2.symm.trans g5.symm
      rw [g6] at e2
      obtain ⟨t, et⟩ := Value.isStrOf_shape (x := y) (v := en.key) e2
      rw [et] at e3
      exact ⟨e, y, t, en.val, g1, rfl, g5.symm, g3, e3⟩
  have kn : ks.Nodup := by
    have e : vs.map (·.1) = ks.map Sum.inr := (L2.KV.keys kv).symm.trans hks
    rw [e] at hnd
    exact List.Pairwise.of_map Sum.inr (fun x y hne e => hne (congrArg _ e)) hnd
  refine wpAny_bind (wpAny_newList ?_ (sz (by rw [List.length_map]; exact lak)))
  have hoL : (h'.push (seqObj "list" (as.map Value.ref).toArray 0)).get? h'.objs.size = some (seqObj "list" (as.map Value.ref).toArray 0) := Heap.get?_push_size _ rfl
  have nw : ∀ b o, h'.get? b = some o → b ≠ h'.objs.size := fun b o e => Nat.ne_of_lt (Heap.lt_size e)
  have up : ∀ b o, h'.get? b = some o → (h'.push (seqObj "list" (as.map Value.ref).toArray 0)).get? b = some o := fun b o e => Heap.get?_push_of_some _ e
  show wpAny _ _ _ _ _ { s with heap := h'.push (seqObj "list" (as.map Value.ref).toArray 0), toks := tk }
  generalize h'.push (seqObj "list" (as.map Value.ref).toArray 0) = h2 at hoL up ⊢
  have at2 : ∀ v ∈ as.map Value.ref, ∃ (j : Nat) (b : Addr) (y : Str), v = .ref b ∧ as[j]? = some b ∧ ks[j]? = some y ∧ hdT h2 v = y ∧ PrAt h2 v ∧ b ≠ h'.objs.size := fun v hv => by
    obtain ⟨b, hb, rfl⟩ := List.mem_map.mp hv
    obtain ⟨j, hj⟩ := List.mem_iff_getElem?.mp hb
    obtain ⟨e, y, t, x, _, g2, _, _, g5⟩ := pr j b hj
    exact ⟨j, b, y, rfl, hj, g2, hdT_of (up _ _ g5), ⟨b, y, t, x, rfl, up _ _ g5⟩, nw _ _ g5⟩
  refine wpAny_bind (wpAny_holding (wpAny_call_entry slot_list_sort ⟨_, hoL, rfl⟩ entry_list_sort (SrtO.list_sort_ord (s := { s with heap := h2, toks := tk }) (ltHd_swo h2) hoL (sz (by rw [List.length_map]; exact lak)) (fun g2 => pairs_sortable g2 (fun v hv => ?_)
    (fun v hv u hu e => ?_) (fun _ _ => rfl) fun v hv e => ?_) fun out hs hb => ⟨_, rfl, ?_⟩) (args_list_sort _)))
  · obtain ⟨_, _, _, _, _, _, _, z, _⟩ := at2 v hv
    exact z
  · obtain ⟨j, b, y, rfl, j1, j2, j3, _⟩ := at2 v hv
    obtain ⟨i, c, z, rfl, i1, i2, i3, _⟩ := at2 u hu
    rw [j3, i3] at e
    rw [← e] at i2
    have ij : j = i := (List.getElem?_inj (List.getElem?_eq_some_iff.mp j2).1 kn).mp (j2.trans i2.symm)
    rw [ij] at j1
    rw [Option.some.inj (j1.symm.trans i1)]
  · obtain ⟨_, b, _, rfl, _, _, _, _, z⟩ := at2 v hv
    injection e with e
    exact z e
  -- behind the sort
  obtain ⟨c, hcF⟩ := sortedHeap_at (vs := as.map Value.ref) (out := out.toArray) hoL
  have kF : ∀ b o, h'.get? b = some o → (sortedHeap h2 h'.objs.size (as.map Value.ref) out.toArray).get? b = some o := fun b o e => (sortedHeap_old (nw _ _ e) (Heap.lt_size (up _ _ e))).trans (up _ _ e)
  obtain ⟨zs, pz, ez⟩ := perm_lift (fun z : Addr × (Key × V) => Value.ref z.1) hb.perm (as.zip kvs) (by
    have e : (as.zip kvs).map (·.1) = as := List.map_fst_zip (by omega)
    have e2 : (as.zip kvs).map (fun z : Addr × (Key × V) => Value.ref z.1) = ((as.zip kvs).map (·.1)).map Value.ref := by rw [List.map_map]; rfl
    rw [e2, e])
  have idx : ∀ z ∈ zs, ∃ j : Nat, as[j]? = some z.1 ∧ kvs[j]? = some z.2 := fun z hz => by
    obtain ⟨j, hj⟩ := List.mem_iff_getElem?.mp (pz.mem_iff.mp hz)
    exact ⟨j, List.getElem?_zip_eq_some.mp hj⟩
  have pzA : (zs.map (·.1)).Perm as := by
    have e := pz.map (·.1)
    rw [List.map_fst_zip (by omega)] at e
    exact e
  have pzK : (zs.map (·.2)).Perm kvs := by
    have e := pz.map (·.2)
    rw [List.map_snd_zip (by omega)] at e
    exact e
  have ndz : (zs.map (·.1)).Nodup := pzA.nodup_iff.mpr nd
  have hn0 : H h'.objs.size = none := I.hok.fresh (Nat.le_of_lt hlt)
  have kS : ∀ b o, s.heap.get? b = some o → (sortedHeap h2 h'.objs.size (as.map Value.ref) out.toArray).get? b = some o := fun b o e => kF b o (hk b o e)
  have hout : out = (zs.map (·.1)).map Value.ref := by rw [← ez, List.map_map]; rfl
  have I1 : Inv X pins σ H { s with heap := sortedHeap h2 h'.objs.size (as.map Value.ref) out.toArray, toks := tk } := I.kept (t' := tk) kS
  have I2 : Inv X pins σ (upd H h'.objs.size (.lst ((zs.map (·.1)).map V.ref))) { s with heap := sortedHeap h2 h'.objs.size (as.map Value.ref) out.toArray, toks := tk } := by
    refine I1.take (h' := sortedHeap h2 h'.objs.size (as.map Value.ref) out.toArray) (t' := tk) (fun b ob _ e => e) (I.fpOk (Nat.le_of_lt hlt) hn0) ⟨?_, out, c, ?_, hcF⟩
    · rw [List.length_map, pzA.length_eq]
      exact sz lak
    · rw [hout]
      exact LiI.vals_refs _
  obtain ⟨H2, I3, g, g2, qt⟩ := layTups (fun b vs => ∃ (j : Nat) (e : Key × V), as[j]? = some b ∧ kvs[j]? = some e ∧ vs = [kV e.1, e.2]) I (zs.map (·.1)) _ I2 ndz fun b hb => by
    have hb' := pzA.mem_iff.mp hb
    obtain ⟨j, hj⟩ := List.mem_iff_getElem?.mp hb'
    obtain ⟨e, y, t, x, f1, _, f3, f4, f5⟩ := pr j b hj
    refine ⟨low b hb', ?_, [kV e.1, e.2], ⟨j, e, hj, f1, rfl⟩, fun H3 => ⟨by rw [sizeLine_eq]; show 2 ≤ 16777216; omega, [Value.str y t, x], .cons ?_ (.cons f4 .nil), ⟨_, kF _ _ f5, rfl, 0, rfl⟩⟩⟩
    · rw [upd_ne (nw _ _ f5)]
      exact I.hok.fresh (low b hb')
    · rw [f3]
      exact ⟨t, rfl⟩
  refine wpAny_pure ⟨_, rfl, .ref h'.objs.size, H2, I3, rfl, q H2 h'.objs.size (zs.map (·.1)) (zs.map (·.2)) (fun b o e => g b o (by rw [upd_ne (ne_of_none e hn0)]; exact e)) hn0 (fun t ht => I.hok.fresh (low t (pzA.mem_iff.mp ht))) ndz ?_ (fun b h1 h2 => by rw [g2 b h1, upd_ne h2]) (g _ _ upd_same) ?_ pzK ?_⟩
  · intro z
    obtain ⟨j, hj⟩ := List.mem_iff_getElem?.mp (pzA.mem_iff.mp z)
    obtain ⟨_, _, _, _, _, _, _, _, f5⟩ := pr j _ hj
    exact nw _ _ f5 rfl
  · refine paired_zip (fun z : Addr × (Key × V) => z.1) zs fun z hz => ?_
    obtain ⟨i, i1, i2⟩ := idx z hz
    obtain ⟨ws, ⟨j, e, j1, j2, ev⟩, hH⟩ := qt z.1 (List.mem_map.mpr ⟨z, hz, rfl⟩)
    have ij : i = j := (List.getElem?_inj (List.getElem?_eq_some_iff.mp i1).1 nd).mp (i1.trans j1.symm)
    subst ij
    rw [ev, Option.some.inj (j2.symm.trans i2)] at hH
    exact hH
  · have yk : ∀ z ∈ zs, z.2.1 = .inr (hdT h2 (.ref z.1)) := fun z hz => by
      obtain ⟨i, i1, i2⟩ := idx z hz
      obtain ⟨e, y, t, x, f1, _, f3, _, f5⟩ := pr i _ i1
      rw [hdT_of (up _ _ f5), ← f3, Option.some.inj (f1.symm.trans i2)]
    have ek : (zs.map (·.2)).map (·.1) = (zs.map fun z => hdT h2 (.ref z.1)).map (Sum.inr : Str → Key) := by
      rw [List.map_map, List.map_map]
      exact List.map_congr_left fun z hz => yk z hz
    refine ⟨zs.map fun z => hdT h2 (.ref z.1), ek, ?_, ?_⟩
    · rw [← ez] at hs
      rw [List.pairwise_map]
      exact (List.pairwise_map.mp hs).imp fun q => ltHd_no q
    · have e1 := (pzK.map (·.1)).nodup_iff.mpr (by rw [hks]; exact kn.map _ fun x y hne e => hne (by injection e))
      rw [ek] at e1
      exact List.Pairwise.of_map Sum.inr (fun x y hne e => hne (congrArg _ e)) e1
end
end DL
/-! DXp: sorted(set(xs)), sorted(d), sorted(d.items()) as functions. -/
namespace DL
open PySem PySem.Spec PyProof.Rows L2

/-! ### sorted(set(xs)) -/
def fSortSet : FN := fun ds Q => match ds with
  | [.list (.str x :: xs)] => strsD (.str x :: xs) fun bs => bs.length < 64 ∧ ∀ ys : List Str, sortedS ys = true → ys.Nodup → (∀ z, z ∈ ys ↔ z ∈ bs) → Q (.list (ys.map .str))
  | [.list xs] => intsD xs fun bs => bs.length < 64 ∧ ∀ ys : List Int, ys.Pairwise (· ≤ ·) → ys.Nodup → (∀ z, z ∈ ys ↔ z ∈ bs) → Q (.list (ys.map .int))
  | _ => False
section
variable {α : Type} [DecidableEq α]
def onceL : List α → List α
  | [] => []
  | x :: l => if x ∈ l then onceL l else x :: onceL l
theorem mem_onceL {z : α} : ∀ {l : List α}, z ∈ onceL l ↔ z ∈ l
  | [] => Iff.rfl
  | x :: l => by
    unfold onceL
    by_cases h : x ∈ l
    · rw [if_pos h, mem_onceL, List.mem_cons]
      exact ⟨Or.inr, fun e => e.elim (fun e => e ▸ h) id⟩
    · rw [if_neg h, List.mem_cons, List.mem_cons, mem_onceL]
theorem nd_onceL : ∀ l : List α, (onceL l).Nodup
  | [] => List.nodup_nil
  | x :: l => by
    unfold onceL
    by_cases h : x ∈ l
    · rw [if_pos h]
      exact nd_onceL l
    · rw [if_neg h]
      exact List.nodup_cons.mpr ⟨fun e => h (mem_onceL.mp e), nd_onceL l⟩
theorem once_perm {l ys : List α} (hn : ys.Nodup) (hm : ∀ z, z ∈ ys ↔ z ∈ l) : ys.Perm (onceL l) :=
  (List.perm_ext_iff_of_nodup hn (nd_onceL l)).mpr fun z => (hm z).trans mem_onceL.symm
end
def ySortSet : YN
  | [.list (.str x :: xs)] => (strsX (.str x :: xs)).bind fun bs => og (decide (bs.length < 64)) (.list ((sortS (onceL bs)).map .str))
  | [.list xs] => (intsX xs).bind fun bs => og (decide (bs.length < 64)) (.list ((sortI (onceL bs)).map .int))
  | _ => none
theorem ok_SortSet : YNOk ySortSet fSortSet := fun ds d Q h q => by
  unfold ySortSet at h
  split at h
  · obtain ⟨bs, h', h⟩ := obind h
    obtain ⟨c, e⟩ := og_some h
    subst e
    exact strsX_of h' ⟨of_decide_eq_true c, fun ys hs hn hm => by rw [sortB_uniq leS_tot leS_tr leS_anti (once_perm hn hm) (sortedS_pw hs)]; exact q⟩
  · rename_i xs hne
    obtain ⟨bs, h', h⟩ := obind h
    obtain ⟨c, e⟩ := og_some h
    subst e
    have z : intsD xs fun bs => bs.length < 64 ∧ ∀ ys : List Int, ys.Pairwise (· ≤ ·) → ys.Nodup → (∀ z, z ∈ ys ↔ z ∈ bs) → Q (.list (ys.map .int)) :=
      intsX_of h' ⟨of_decide_eq_true c, fun ys hs hn hm => by rw [sortB_uniq leI_tot leI_tr leI_anti (once_perm hn hm) (hs.imp fun h => decide_eq_true h)]; exact q⟩
    unfold fSortSet
    split
    · rename_i x xs' e
      cases e
      exact (hne x xs' rfl).elim
    · rename_i e
      cases e
      exact z
    · rename_i n1 n2
      exact absurd rfl (n2 xs)
  · cases h
theorem ySortSet_strs {bs : List Str} (h : bs.length < 64) : ySortSet [.list (bs.map .str)] = some (.list ((sortS (onceL bs)).map .str)) := by
  cases bs with
  | nil => rfl
  | cons b bs =>
    show (strsX ((b :: bs).map .str)).bind _ = _
    rw [strsX_map]
    show og _ _ = _
    rw [decide_eq_true h]
    rfl
theorem ySortSet_ints {bs : List Int} (h : bs.length < 64) : ySortSet [.list (bs.map .int)] = some (.list ((sortI (onceL bs)).map .int)) := by
  have e : ySortSet [.list (bs.map .int)] = (intsX (bs.map .int)).bind fun bs => og (decide (bs.length < 64)) (.list ((sortI (onceL bs)).map .int)) := by
    cases bs <;> rfl
  rw [e, intsX_map]
  show og _ _ = _
  rw [decide_eq_true h]
  rfl
section
variable {X : Cx} {e : Expr} {ta : DTA} {p p2 pos pos2 : Pos}
theorem d_sortSet (hc : X.calm = true) (hm : X.mg "sorted" = none) (hm2 : X.mg "set" = none) (ha : DA X [e] ta) (hg : Gl X "sorted" := by rfl) (hg2 : Gl X "set" := by rfl)
    (he : starEach [e] X.env = (false, eval e X.env) :: starEach [] X.env := by rfl) (hs : starEach [.Call (.Name "set" p2) [e] [] pos2] X.env = (false, eval (.Call (.Name "set" p2) [e] [] pos2) X.env) :: starEach [] X.env := by rfl)
    (hpl : (backTo pos (starEach [] X.env)).any (·.1) = false := by rfl) (hpl2 : (backTo pos2 (starEach [] X.env)).any (·.1) = false := by rfl) :
    DE X (.Call (.Name "sorted" p) [.Call (.Name "set" p2) [e] [] pos2] [] pos) (dCB fSortSet ta) := by
  obtain ⟨_, pa, sa⟩ := ha.ex
  refine ⟨_, pe_callB (cr_sorSet hc) hg hm (by decide +kernel) (pa_cons (pe_callTy (cr_setL hc) hg2 hm2 (by decide +kernel) pa (by decide) (by decide) he hpl2) pa_nil hs) (by decide) (by decide) hs hpl, fun W S g m σ H Q R r0 sl hq k => ?_⟩
  refine sa W S g m σ H _ _ r0 sl hq fun vs H1 S1 es m1 r1 l1 er q1 => ?_
  obtain ⟨ds, va, q2⟩ := asDs_of r1 q1 er
  unfold fSortSet at q2
  split at q2
  · obtain ⟨v, rfl, h⟩ := vwAll1 va
    obtain ⟨a, us, rfl, hH, hA⟩ := vw_lst r1.sub h
    obtain ⟨bs, eb, h64, q3⟩ := strsD_of q2
    rw [eb] at hA
    rw [dv_strs hA] at hH
    refine ⟨a, bs.map Sum.inr, rfl, Or.inl (Or.inl (by rw [List.map_map]; exact hH)), by rw [List.length_map]; exact h64, fun t ht => ?_⟩
    have r2 := r1.aside (o := SetH X.w t (bs.map Sum.inr) (bs.map (Sum.inr : Str → Key)).length) (r1.not_mem ht) (r1.freshF ht) (r1.fresh0 ht)
    exact ⟨t, _, rfl, by rw [List.length_map]; exact h64, Or.inl ⟨bs, upd_same, fun ys p' s1 s2 s3 hp => new_lst r2 (strs_dv ys) (fun v H' S' d r4 l4 e4 e => k v H' S' (.dat d) m1 r4 (l1.trans l4) e4 (by rw [e]; exact q3 ys s1 s2 s3)) p' hp⟩⟩
  · obtain ⟨v, rfl, h⟩ := vwAll1 va
    obtain ⟨a, us, rfl, hH, hA⟩ := vw_lst r1.sub h
    obtain ⟨bs, eb, h64, q3⟩ := intsD_of q2
    rw [eb] at hA
    rw [dv_ints hA] at hH
    refine ⟨a, bs.map Sum.inl, rfl, Or.inl (Or.inl (by rw [List.map_map]; exact hH)), by rw [List.length_map]; exact h64, fun t ht => ?_⟩
    have r2 := r1.aside (o := SetH X.w t (bs.map Sum.inl) (bs.map (Sum.inl : Int → Key)).length) (r1.not_mem ht) (r1.freshF ht) (r1.fresh0 ht)
    exact ⟨t, _, rfl, by rw [List.length_map]; exact h64, Or.inr ⟨bs, upd_same, fun ys p' s1 s2 s3 hp => new_lst r2 (ints_dv ys) (fun v H' S' d r4 l4 e4 e => k v H' S' (.dat d) m1 r4 (l1.trans l4) e4 (by rw [e]; exact q3 ys s1 s2 s3)) p' hp⟩⟩
  · exact q2.elim
end
/-! ### sorted(d), the keys texts -/
def keysS : List Key → Option (List Str)
  | [] => some []
  | .inr x :: r => (keysS r).map (x :: ·)
  | .inl _ :: _ => none
theorem keysS_of : ∀ {ks : List Key} {bs : List Str}, keysS ks = some bs → ks = bs.map Sum.inr
  | [], bs, h => by
    cases h
    rfl
  | .inr x :: r, bs, h => by
    obtain ⟨bs', h', rfl⟩ := omap (show (keysS r).map (x :: ·) = some bs from h)
    rw [keysS_of h']
    rfl
  | .inl _ :: _, bs, h => nomatch h
theorem keysS_map : ∀ bs : List Str, keysS (bs.map Sum.inr) = some bs
  | [] => rfl
  | b :: bs => by
    show (keysS (bs.map Sum.inr)).map _ = _
    rw [keysS_map bs]
    rfl
def fSortK (ks : List Key) (Q : PyData → Prop) : Prop := ∃ bs, keysS ks = some bs ∧ bs.length < 64 ∧ Q (.list ((sortS bs).map .str))
def dSortD (ta : DTA) : DTE := fun g m Q => ta g m fun es m1 => keys1 m1 es fun ks => fSortK ks fun d => Q (.dat d) m1
def pSortD (es : List E) (m : Mm) : Rs E := xo ((keysX m es).bind keysS) fun bs => xo (og (decide (bs.length < 64)) ()) fun _ => .ok (.dat (.list ((sortS bs).map .str))) m
def xSortD (xa : XA) (g : Gm) (m : Mm) : Rs E := rb (xa g m) pSortD
theorem i_SortD {Xp : XP} {xa : XA} : IE (ofE Xp (xSortD xa)) (dSortD (ofA Xp xa)) := fun g m Q q => post_rb q fun es m1 q => by
  obtain ⟨bs, h, q⟩ := post_xo q
  obtain ⟨ks, h1, h2⟩ := obind h
  obtain ⟨_, c, q⟩ := post_xo q
  exact keysX_of h1 ⟨bs, h2, of_decide_eq_true (og_some c).1, q⟩
section
variable {X : Cx} {e : Expr} {ta : DTA} {p pos : Pos}
theorem d_sortD (hc : X.calm = true) (hm : X.mg "sorted" = none) (ha : DA X [e] ta) (hg : Gl X "sorted" := by rfl) (he : starEach [e] X.env = (false, eval e X.env) :: starEach [] X.env := by rfl) (hpl : (backTo pos (starEach [] X.env)).any (·.1) = false := by rfl) :
    DE X (.Call (.Name "sorted" p) [e] [] pos) (dSortD ta) := by
  obtain ⟨_, pa, sa⟩ := ha.ex
  refine ⟨_, pe_callB (call_sortedD hc) hg hm (by decide +kernel) pa (by decide) (by decide) he hpl, fun W S g m σ H Q R r0 sl hq k => ?_⟩
  refine sa W S g m σ H _ _ r0 sl hq fun vs H1 S1 es m1 r1 l1 er q1 => ?_
  match es, vs, er, q1 with
  | [a], [v], .cons ea .nil, q1 =>
      have q2 : keysE m1 a fun ks => fSortK ks fun d => Q (.dat d) m1 := q1
      cases a with
      | dat _ => exact q2.elim
      | scr _ => exact q2.elim
      | loc j =>
        have q3 : (match m1[j]? with | some (.dic kvs) => fSortK (kvs.map (·.1)) fun d => Q (.dat d) m1 | _ => False) := q2
        obtain ⟨a, ha', rfl⟩ := ea
        split at q3
        · rename_i kvs hmj
          obtain ⟨bs, hb, h64, q4⟩ := q3
          obtain ⟨ws, hH, er2⟩ := r1.ok j a _ ha' hmj
          have ek : ws.map (·.1) = kvs.map (·.1) := by
            clear hH hb hmj
            induction er2 with
            | nil => rfl
            | cons r t ih => rw [List.map_cons, List.map_cons, ih, r.1]
          refine ⟨a, ws, bs, rfl, Or.inl hH, ek.trans (keysS_of hb), h64, fun ys p' h1 h2 hp => ?_⟩
          have es := sortB_uniq leS_tot leS_tr leS_anti h1 (sortedS_pw h2)
          exact new_lst r1 (strs_dv ys) (fun v H' S' d r4 l4 e4 e => k v H' S' (.dat d) m1 r4 (l1.trans l4) e4 (by rw [e, es]; exact q4)) p' hp
        · exact q3.elim
end
end DL
/-! DXq: sorted(d.items()) as a function. -/
namespace DL
open PySem PySem.Spec PyProof.Rows L2

abbrev Its := List (Str × PyData)
def prD (z : Str × PyData) : PyData := .tuple [.str z.1, z.2]
def leP (a b : Str × PyData) : Bool := leS a.1 b.1
def sortP (l : Its) : Its := sortB leP l
theorem sortP_uniq {l rs : Its} (hp : rs.Perm l) (hs : (rs.map (·.1)).Pairwise fun x y => leS x y = true) (hn : (rs.map (·.1)).Nodup) : rs = sortP l := by
  refine List.Perm.eq_of_pairwise (le := fun a b => leP a b = true) (fun a b ha hb h h' => ?_) (List.pairwise_map.mp hs) (sortB_pw (fun a b => leS_tot a.1 b.1) (fun a b c => leS_tr a.1 b.1 c.1) l) (hp.trans (sortB_perm leP l).symm)
  have hb' : b ∈ rs := hp.mem_iff.mpr ((sortB_perm leP l).mem_iff.mp hb)
  have e : a.1 = b.1 := leS_anti _ _ h h'
  obtain ⟨i, hi⟩ := List.mem_iff_getElem?.mp ha
  obtain ⟨j, hj⟩ := List.mem_iff_getElem?.mp hb'
  have ei : (rs.map (·.1))[i]? = some a.1 := by rw [List.getElem?_map, hi]; rfl
  have ej : (rs.map (·.1))[j]? = some a.1 := by rw [List.getElem?_map, hj, e]; rfl
  have ij : i = j := (List.getElem?_inj (List.getElem?_eq_some_iff.mp ei).1 hn).mp (ei.trans ej.symm)
  rw [ij] at hi
  exact Option.some.inj (hi.symm.trans hj)
def datKv : List (Key × E) → Option Its
  | [] => some []
  | (.inr x, .dat d) :: r => (datKv r).map ((x, d) :: ·)
  | _ :: _ => none
def datPr : List (PyData × PyData) → Option Its
  | [] => some []
  | (.str x, d) :: r => (datPr r).map ((x, d) :: ·)
  | _ :: _ => none
theorem datKv_of : ∀ {kvs : List (Key × E)} {its : Its}, datKv kvs = some its → kvs = its.map fun z => (.inr z.1, .dat z.2)
  | [], _, h => by cases h; rfl
  | (.inr x, .dat d) :: r, its, h => by
    obtain ⟨t, h', rfl⟩ := omap (show (datKv r).map ((x, d) :: ·) = some its from h)
    rw [datKv_of h']
    rfl
  | (.inr x, .loc _) :: r, _, h => nomatch h
  | (.inr x, .scr _) :: r, _, h => nomatch h
  | (.inl _, _) :: r, _, h => nomatch h
theorem datPr_of : ∀ {kvs : List (PyData × PyData)} {its : Its}, datPr kvs = some its → kvs = its.map fun z => (.str z.1, z.2)
  | [], _, h => by cases h; rfl
  | (.str x, d) :: r, its, h => by
    obtain ⟨t, h', rfl⟩ := omap (show (datPr r).map ((x, d) :: ·) = some its from h)
    rw [datPr_of h']
    rfl
  | (.none, _) :: r, _, h => nomatch h
  | (.int _, _) :: r, _, h => nomatch h
  | (.bool _, _) :: r, _, h => nomatch h
  | (.list _, _) :: r, _, h => nomatch h
  | (.tuple _, _) :: r, _, h => nomatch h
  | (.dict _, _) :: r, _, h => nomatch h
theorem datKv_map : ∀ its : Its, datKv (its.map fun z => (.inr z.1, .dat z.2)) = some its
  | [] => rfl
  | z :: r => by
    show (datKv (r.map _)).map _ = _
    rw [datKv_map r]
    rfl
theorem datPr_map : ∀ its : Its, datPr (its.map fun z => (.str z.1, z.2)) = some its
  | [] => rfl
  | z :: r => by
    show (datPr (r.map _)).map _ = _
    rw [datPr_map r]
    rfl
def itemsX (m : Mm) : E → Option Its
  | .loc j => match m[j]? with
    | some (.dic kvs) => datKv kvs
    | _ => none
  | .dat (.dict kvs) => datPr kvs
  | _ => none
def pSortIt (a : E) (m : Mm) : Rs E := xo (itemsX m a) fun its => xo (og (decide (its.length < 64)) ()) fun _ => .ok (.dat (.list ((sortP its).map prD))) m
def xSortIt (o : XE) (g : Gm) (m : Mm) : Rs E := rb (o g m) pSortIt
def dSortIt (te : DTE) : DTE := fun g m Q => te g m fun a m1 => ∃ its, itemsX m1 a = some its ∧ its.length < 64 ∧ Q (.dat (.list ((sortP its).map prD))) m1
theorem i_SortIt {Xp : XP} {o : XE} : IE (ofE Xp (xSortIt o)) (dSortIt (ofE Xp o)) := fun g m Q q => post_rb q fun a m1 q => by
  obtain ⟨its, h, q⟩ := post_xo q
  obtain ⟨_, c, q⟩ := post_xo q
  exact ⟨its, h, of_decide_eq_true (og_some c).1, q⟩
/-! ### the view -/
def rItK : V → Hp → VK → Prop := fun x H Q => ∃ (a : Addr) (kvs : List (Key × V)), x = .ref a ∧ H a = some (.dK kvs) ∧ ∀ p, H p = none → Q (.ref p) (upd H p (L2.DX.itemsO p a))
def tItK (te : TE) : TE := fun σ H Q => te σ H fun x H1 => rItK x H1 Q
section
variable {X : Cx} {e : Expr} {te : TE} {apos cpos : Pos}
theorem pe_itK (he : PE X e te) (hbase : attributeBase e "items" X.env (eval e X.env) = eval e X.env := by rfl) (hline : (apos.endLine == cpos.line) = true := by rfl) : PE X (.Call (.Attribute e "items" apos) [] [] cpos) (tItK te) := by
  refine ⟨fun pins s σ H Q I hq => ?_⟩
  refine wpAny_Call_method (T := "dict") (id := "dict.items") hbase rfl hline F.plainAttrs_dict F.slot_dict_items F.type_dict_items (thn (he.run pins s σ H _ I hq) fun u s1 ⟨x, H1, I1, rx, d, kvs, ex, hd, q⟩ => ?_)
  subst ex
  obtain rfl : u = Value.ref d := rx
  obtain ⟨hz, hs0, vs, kv, hdo⟩ := I1.hok d _ hd
  refine ⟨hdo.typeIs, hdo.mapOf.noDict, ?_⟩
  show wpAny _ _ (callWith cpos (.builtin "dict.items") [.ref d] [] []) _ X.xe s1
  refine method_meetsIn F.slot_dict_items F.entry_dict_items rfl (PySem.evalArgs_none ⟨rfl, hdo.typeIs, F.args_dict_items_1 _, _, meets_dict_items (mixKind X.prog X.w) d hs0, ⟨vs, hdo⟩, ?_⟩)
  exact ⟨.ref _, _, I1.laid (t' := s1.toks) (fun b ob z => Heap.get?_push_of_some _ z) (Nat.le_refl _) (L2.DX.itemsO_ok (Heap.get?_push_size _ rfl)), rfl, q _ (I1.hok.fresh (Nat.le_refl _))⟩
end
section
variable {K : PySem.W.Frag} {W : Wd}
theorem layAll {m : Mm} : ∀ (ts : List Addr) (qs : List (Key × V)) {H : Hp} {S : Sd}, Rep K W S m H → (∀ t ∈ ts, H t = none) → ts.Nodup → ts.length = qs.length →
    ∃ S', Rep K W S' m (LiI.putT H ts qs) ∧ Le S S' ∧ Paired (fun (t : Addr) (q : Key × V) => S'.F t = some (.tup [kV q.1, q.2])) ts qs
  | [], [], H, S, r, _, _, _ => ⟨S, r, Le.refl S, .nil⟩
  | [], _ :: _, _, _, _, _, _, h => nomatch h
  | _ :: _, [], _, _, _, _, _, h => nomatch h
  | t :: ts, q :: qs, H, S, r, hn, nd, hl => by
    obtain ⟨nt, nd'⟩ := List.nodup_cons.mp nd
    obtain ⟨r1, l1⟩ := r.frz (o := .tup [kV q.1, q.2]) (hn t List.mem_cons_self)
    obtain ⟨S', r2, l2, p2⟩ := layAll ts qs r1 (fun u hu => by rw [upd_ne fun z : u = t => nt (z ▸ hu)]; exact hn u (List.mem_cons_of_mem _ hu)) nd' (Nat.succ.inj hl)
    exact ⟨S', r2, l1.trans l2, .cons (l2.f _ _ upd_same) p2⟩
theorem putT_eq {H H' : Hp} {ts : List Addr} {qs : List (Key × V)} (h1 : ∀ b, b ∉ ts → H' b = H b) (h2 : Paired (fun (t : Addr) (q : Key × V) => H' t = some (.tup [kV q.1, q.2])) ts qs) (nd : ts.Nodup) : H' = LiI.putT H ts qs := by
  have h3 := LiI.putT_at ts qs H h2.length nd
  funext b
  by_cases hb : b ∈ ts
  · obtain ⟨j, q, e1, e2, e3⟩ := LiI.paired_ix h2 hb
    obtain ⟨q', e2', e3'⟩ := LiI.paired_get h3 e1
    rw [e3, e3', Option.some.inj (e2.symm.trans e2')]
  · rw [h1 b hb, LiI.putT_off _ _ _ hb]
/-- the values of a dict, by their keys -/
def KvD (K : PySem.W.Frag) (F : Hp) (ws : List (Key × V)) (its : Its) : Prop := Paired (fun (a : Key × V) (z : Str × PyData) => a.1 = .inr z.1 ∧ Dv K F a.2 z.2) ws its
theorem kvD_perm {F : Hp} {ws qs : List (Key × V)} (p : qs.Perm ws) : ∀ {its : Its}, KvD K F ws its → ∃ rs, rs.Perm its ∧ KvD K F qs rs := by
  induction p with
  | nil => intro its h; exact ⟨its, List.Perm.refl _, h⟩
  | cons x p ih =>
    intro its h
    cases h with
    | cons r t =>
      obtain ⟨rs, p', h'⟩ := ih t
      exact ⟨_, p'.cons _, .cons r h'⟩
  | swap x y l =>
    intro its h
    cases h with
    | cons r t =>
      cases t with
      | cons r2 t2 => exact ⟨_, List.Perm.swap _ _ _, .cons r2 (.cons r t2)⟩
  | trans p1 p2 ih1 ih2 =>
    intro its h
    obtain ⟨rs, q1, h1⟩ := ih2 h
    obtain ⟨rs2, q2, h2⟩ := ih1 h1
    exact ⟨rs2, q2.trans q1, h2⟩
theorem kvD_keys {F : Hp} {ws : List (Key × V)} {its : Its} (h : KvD K F ws its) : ws.map (·.1) = (its.map (·.1)).map Sum.inr := by
  induction h with
  | nil => rfl
  | cons r t ih => rw [List.map_cons, ih, r.1]; rfl
theorem kvD_dv {F F' : Hp} (hF : Sub F F') {qs : List (Key × V)} {rs : Its} (h : KvD K F qs rs) : ∀ {ts : List Addr}, Paired (fun (t : Addr) (q : Key × V) => F' t = some (.tup [kV q.1, q.2])) ts qs → DvAll K F' (ts.map V.ref) (rs.map prD) := by
  induction h with
  | nil =>
    intro ts p
    cases p
    exact .nil
  | cons r t ih =>
    intro ts p
    cases p with
    | cons a b =>
      refine .cons (.tup (Or.inl (Or.inl a)) (.cons ?_ (.cons (Dv.mono hF r.2) .nil))) (ih b)
      rw [r.1]
      exact .str _
end
section
variable {X : Cx} {e : Expr} {te : DTE} {p pos apos cpos : Pos}
theorem kvD_ev {K : PySem.W.Frag} {S : Sd} : ∀ {its : Its} {ws : List (Key × V)}, EvKv K S ws (its.map fun z => (.inr z.1, .dat z.2)) → KvD K S.F ws its
  | [], _, h => by
    cases h
    exact .nil
  | z :: its, _, h => by
    cases h with
    | cons r t => exact .cons r (kvD_ev t)
theorem kvD_kv {K : PySem.W.Frag} {F : Hp} : ∀ {its : Its} {ws : List (Key × V)}, DvKv K F ws (its.map fun z => (.str z.1, z.2)) → KvD K F ws its
  | [], _, h => by
    cases h
    exact .nil
  | z :: its, (k, v) :: ws, h => by
    generalize hz : (((z :: its).map fun z => (PyData.str z.1, z.2)) : List (PyData × PyData)) = l at h
    cases h with
    | cons r t =>
      injection hz with h1 h2
      injection h1 with h3 h4
      subst h2
      subst h4
      refine .cons ⟨?_, r⟩ (kvD_kv t)
      cases k with
      | inl i => cases h3
      | inr x => cases h3; rfl
theorem d_sortIt (hc : X.calm = true) (hm : X.mg "sorted" = none) (he : DE X e te) (hg : Gl X "sorted" := by rfl) (hbase : attributeBase e "items" X.env (eval e X.env) = eval e X.env := by rfl) (hline : (apos.endLine == cpos.line) = true := by rfl)
    (hs : starEach [.Call (.Attribute e "items" apos) [] [] cpos] X.env = (false, eval (.Call (.Attribute e "items" apos) [] [] cpos) X.env) :: starEach [] X.env := by rfl) (hpl : (backTo pos (starEach [] X.env)).any (·.1) = false := by rfl) :
    DE X (.Call (.Name "sorted" p) [.Call (.Attribute e "items" apos) [] [] cpos] [] pos) (dSortIt te) := by
  obtain ⟨_, pe, se⟩ := he.ex
  refine ⟨_, pe_callB (cr_sorIt hc) hg hm (by decide +kernel) (pa_cons (pe_itK pe hbase hline) pa_nil hs) (by decide) (by decide) hs hpl, fun W S g m σ H Q R r0 sl hq k => ?_⟩
  refine se W S g m σ H _ _ r0 sl hq fun v H1 S1 a m1 r1 l1 er q1 => ?_
  obtain ⟨its, hi, h64, q2⟩ := q1
  have fin : ∀ (ad : Addr) (ws : List (Key × V)), v = .ref ad → H1 ad = some (.dK ws) → KvD X.K S1.F ws its → tCB rSorIt (tCons (tItK fun _ H Q => Q v H) tNil) σ H1 R := by
    intro ad ws ev hH hk
    subst ev
    refine ⟨ad, ws, rfl, hH, fun p hp => ?_⟩
    have r2 := r1.aside (o := L2.DX.itemsO p ad) (r1.not_mem hp) (r1.freshF hp) (r1.fresh0 hp)
    have lw : ws.length = its.length := hk.length
    refine ⟨p, ad, ws, its.map (·.1), rfl, upd_same, by rw [upd_ne (ne_of_none hH hp)]; exact hH, kvD_keys hk, by omega, ?_⟩
    intro H' l ts qs _ hl hts nd nl hoff hlst hpair hperm ⟨ys, y1, y2, y3⟩
    obtain ⟨rs, p', hk'⟩ := kvD_perm hperm hk
    have er : rs.map (·.1) = ys := by
      have e := (kvD_keys hk').symm.trans y1
      exact (List.map_inj_right (fun x y h => Sum.inr.inj h)).mp e
    have es : rs = sortP its := sortP_uniq p' (by rw [er]; exact y2) (by rw [er]; exact y3)
    obtain ⟨r3, l3⟩ := r2.frz (o := .lst (ts.map V.ref)) hl
    obtain ⟨S4, r4, l4, p4⟩ := layAll ts qs r3 (fun t ht => by rw [upd_ne fun z : t = l => nl (z ▸ ht)]; exact hts t ht) nd hpair.length
    have eH : H' = LiI.putT (upd (upd H1 p (L2.DX.itemsO p ad)) l (.lst (ts.map V.ref))) ts qs := putT_eq (fun b hb => by
      by_cases hbl : b = l
      · rw [hbl, hlst, upd_same]
      · rw [upd_ne hbl]
        exact hoff b hb hbl) hpair nd
    rw [eH]
    have l14 := l3.trans l4
    refine k (.ref l) _ S4 (.dat (.list ((sortP its).map prD))) m1 r4 (l1.trans l14) ?_ q2
    rw [← es]
    exact .lst (l4.f _ _ upd_same) (kvD_dv l14.f hk' p4)
  cases a with
  | scr _ => cases hi
  | dat d =>
    cases d with
    | dict kvs =>
      have e := datPr_of (show datPr kvs = some its from hi)
      subst e
      cases er with
      | dic hF hA => exact fin _ _ rfl (r1.sub _ _ hF) (kvD_kv hA)
    | _ => cases hi
  | loc j =>
    have hi' : (match m1[j]? with | some (.dic kvs) => datKv kvs | _ => none) = some its := hi
    obtain ⟨ad, ha, ev⟩ := er
    split at hi'
    · rename_i kvs hmj
      have e := datKv_of hi'
      subst e
      obtain ⟨ws, hH, er2⟩ := r1.ok j ad _ ha hmj
      exact fin ad ws ev hH (kvD_ev er2)
    · cases hi'
end
end DL
/-! DXr: zip(.., strict=True), at the library's level: the next pair, and the end. -/
namespace DL
open PySem PySem.Spec PyProof.Rows L2

abbrev ZipS (h : Heap) (q T1 T2 : Addr) (f0 : Value) : Prop :=
  h.get? q = some { cls := .type "zip", dict := none, data := .fields #[f0, .bool false, .bool true, .ref T1, .ref T2], slots := #[] }
/-- an iterator over the things of l -/
structure WkIt (P : Program) (w : World) (it l : Addr) (items : Array Value) (At : Nat → Heap → Prop) : Prop where
  keep : ∀ {k : Nat} {h h' : Heap}, At k h → (∀ o, h.get? it = some o → h'.get? it = some o) → (∀ o, h.get? l = some o → h'.get? l = some o) → At k h'
  item : ∀ {A : Around} {E : Value → Shared → Prop} {s : Shared} {k : Nat} {x : Value} {Q : Value → Shared → Prop}, At k s.heap → items[k]? = some x →
    (∀ h', At (k + 1) h' → Heap.SameBut it s.heap h' → Q x { s with heap := h' }) → wpAny (model P w) A (Builtin.SmallTypes.nextOf (.ref it)) Q E s
  stop : ∀ {A : Around} {E : Value → Shared → Prop} {s : Shared} {k : Nat} {Q : Value → Shared → Prop}, A.handled = none → At k s.heap → items[k]? = none →
    (∀ h' e, Heap.ExtBut it s.heap h' → (∃ o, h'.get? e = some o ∧ o.cls = .type "StopIteration") → E (.ref e) { s with heap := h' }) → wpAny (model P w) A (Builtin.SmallTypes.nextOf (.ref it)) Q E s
theorem wkTup {P : Program} {w : World} {it l : Addr} {items : Array Value} (hne : l ≠ it) : WkIt P w it l items (fun k h => h.IsTupleIter it l k ∧ h.IsTuple l items) where
  keep := fun st k1 k2 => ⟨st.1.at k1, st.2.at k2⟩
  item := fun st hx hQ => RZ.nextOf_tuple_item st.1 st.2 hx fun h' hi sb => hQ h' ⟨hi, st.2.extBut sb.extBut hne⟩ sb
  stop := fun hh st hx hE => RZ.nextOf_tuple_end hh st.1 st.2 hx hE
theorem wkLst {P : Program} {w : World} {it l : Addr} {items : Array Value} (hne : l ≠ it) : WkIt P w it l items (fun k h => h.IsListIter it l k ∧ h.IsList l items) where
  keep := fun st k1 k2 => ⟨st.1.at k1, st.2.at k2⟩
  item := fun st hx hQ => wpAny_nextOf_list_item st.1 st.2 hx fun h' hi sb => hQ h' ⟨hi, st.2.extBut sb.extBut hne⟩ sb
  stop := fun hh st hx hE => wpAny_nextOf_list_end hh st.1 st.2 hx hE
section
variable {P : Program} {w : World} {A : Around} {E : Value → Shared → Prop} {s : Shared} {it l : Addr} {items : Array Value} {At : Nat → Heap → Prop}
theorem orEnd_item {k : Nat} {x : Value} {Q : Option Value → Shared → Prop} (W : WkIt P w it l items At) (st : At k s.heap) (hx : items[k]? = some x) (hQ : ∀ h', At (k + 1) h' → Heap.SameBut it s.heap h' → Q (some x) { s with heap := h' }) :
    wpAny (model P w) A (Builtin.SmallTypes.nextOrEnd (.ref it)) Q E s := by
  unfold Builtin.SmallTypes.nextOrEnd
  exact wpAny_bind (wpAny_attempt (W.item st hx fun h' a b => wpAny_pure (hQ h' a b)))
theorem orEnd_stop {k : Nat} {Q : Option Value → Shared → Prop} (W : WkIt P w it l items At) (hh : A.handled = none) (st : At k s.heap) (hx : items[k]? = none) (hQ : ∀ h', Heap.ExtBut it s.heap h' → Q none { s with heap := h' }) :
    wpAny (model P w) A (Builtin.SmallTypes.nextOrEnd (.ref it)) Q E s := by
  unfold Builtin.SmallTypes.nextOrEnd
  refine wpAny_bind (wpAny_attempt (W.stop hh st hx fun h' e hk he => ?_))
  obtain ⟨o, ho, hc⟩ := he
  exact wpAny_bind (wpAny_isInstance (T := "StopIteration") (b := true) ⟨o, ho, hc⟩ isSubtype_stop (wpAny_pure (hQ h' hk)))
end
section
variable {P : Program} {w : World} {A : Around} {E : Value → Shared → Prop} {s : Shared} {q T1 T2 a1 a2 l1 l2 : Addr} {k1 k2 : Nat} {xs ys : Array Value} {At1 At2 : Nat → Heap → Prop}
theorem zipS_item {x y a b : Value} {Q : Value → Shared → Prop} (D : ZipApart q T1 T2 a1 a2 l1 l2) (W1 : WkIt P w a1 l1 xs At1) (W2 : WkIt P w a2 l2 ys At2)
    (hq : ZipS s.heap q T1 T2 .none) (h1 : IsPair s.heap T1 (.ref a1) (.ref a2)) (h2 : IsPair s.heap T2 a b) (st1 : At1 k1 s.heap) (st2 : At2 k2 s.heap) (hx : xs[k1]? = some x) (hy : ys[k2]? = some y)
    (hQ : ∀ h', ZipS h' q T1 T2 (rawInt s.heap.objs.size) → IsPair h' T2 x y → At1 (k1 + 1) h' → At2 (k2 + 1) h' → IsPair h' s.heap.objs.size x y → h'.objs.size = s.heap.objs.size + 1 →
      (∀ c o, c ≠ q → c ≠ T2 → c ≠ a1 → c ≠ a2 → s.heap.get? c = some o → h'.get? c = some o) → Q (.ref s.heap.objs.size) { s with heap := h' }) :
    wpAny (model P w) A (Builtin.«zip.__next__» ⟨[.ref q], []⟩) (fun fin s' => ∃ v, fin = .done (.ret v) ∧ Q v s') E s := by
  show wpAny _ _ (field (.ref q) 2 >>= _) _ _ _
  refine wpAny_bind (wpAny_field hq rfl (x := .bool true) rfl (show wpAny _ _ (field (.ref q) 3 >>= _) _ _ _ from ?_))
  refine wpAny_bind (wpAny_field hq rfl (x := .ref T1) rfl (wpAny_bind (wpAny_seqItems h1 rfl (show wpAny _ _ (Builtin.SmallTypes.ownedTupleIsFree (.ref q) >>= _) _ _ _ from wpAny_bind ?_))))
  unfold Builtin.SmallTypes.ownedTupleIsFree
  refine wpAny_bind (wpAny_field hq rfl (x := .none) rfl (wpAny_pure ?_))
  simp only [if_true]
  refine wpAny_bind (wpAny_rule (wpAny_bind (wpAny_field hq rfl (x := .ref T2) rfl (wpAny_bind (wpAny_setField_rec hq (by simp) fun g1 hq1 b1 => ?_)))))
  replace hq1 : ZipS g1 q T1 T2 .ellipsis := hq1
  refine wpAny_bind ?_
  simp only [List.zipIdx_cons, List.zipIdx_nil, List.forIn_cons, List.forIn_nil]
  have u1 : ∀ c o, c ≠ q → s.heap.get? c = some o → g1.get? c = some o := fun c o hc e => b1.extBut _ _ hc e
  refine wpAny_bind (wpAny_bind (wpAny_onRaise (show wpAny _ _ (Builtin.SmallTypes.nextOrEnd (.ref a1)) _ _ _ from ?_)))
  refine orEnd_item W1 (W1.keep st1 (fun o => u1 _ o D.i1z) fun o => u1 _ o D.l1z) hx fun g2 st1' b2 => ?_
  have u2 : ∀ c o, c ≠ a1 → g1.get? c = some o → g2.get? c = some o := fun c o hc e => b2.extBut _ _ hc e
  have p2 : IsPair g2 T2 a b := u2 _ _ D.TOi1 (u1 _ _ D.TOz h2)
  refine wpAny_bind (wpAny_seqItems p2 rfl (wpAny_bind (wpAny_updateSeq_pair p2 fun g3 p3 b3 => ?_)))
  replace p3 : IsPair g3 T2 x b := p3
  have u3 : ∀ c o, c ≠ T2 → g2.get? c = some o → g3.get? c = some o := fun c o hc e => b3.extBut _ _ hc e
  refine wpAny_bind (wpAny_letGo (wpAny_pure ?_))
  refine wpAny_bind (wpAny_bind (wpAny_onRaise (show wpAny _ _ (Builtin.SmallTypes.nextOrEnd (.ref a2)) _ _ _ from ?_)))
  refine orEnd_item W2 (W2.keep st2 (fun o e => u3 _ o D.TOi2.symm (u2 _ o D.i12.symm (u1 _ o D.i2z e))) fun o e => u3 _ o D.l2TO (u2 _ o D.l2i1 (u1 _ o D.l2z e))) hy fun g4 st2' b4 => ?_
  have u4 : ∀ c o, c ≠ a2 → g3.get? c = some o → g4.get? c = some o := fun c o hc e => b4.extBut _ _ hc e
  have p4 : IsPair g4 T2 x b := u4 _ _ D.TOi2 p3
  refine wpAny_bind (wpAny_seqItems p4 rfl (wpAny_bind (wpAny_updateSeq_pair p4 fun g5 p5 b5 => ?_)))
  replace p5 : IsPair g5 T2 x y := p5
  have u5 : ∀ c o, c ≠ T2 → g4.get? c = some o → g5.get? c = some o := fun c o hc e => b5.extBut _ _ hc e
  refine wpAny_bind (wpAny_letGo (wpAny_pure (wpAny_pure (wpAny_bind (wpAny_seqItems p5 rfl (wpAny_bind (wpAny_newTuple ?_)))))))
  have sz : g5.objs.size = s.heap.objs.size := by rw [b5.1, b4.1, b3.1, b2.1, b1.1]
  have hq5 : ZipS g5 q T1 T2 .ellipsis := u5 _ _ D.TOz.symm (u4 _ _ D.i2z.symm (u3 _ _ D.TOz.symm (u2 _ _ D.i1z.symm hq1)))
  have k5 : ∀ c o, c ≠ q → c ≠ T2 → c ≠ a1 → c ≠ a2 → s.heap.get? c = some o → g5.get? c = some o := fun c o c1 c2 c3 c4 e => u5 _ _ c2 (u4 _ _ c4 (u3 _ _ c2 (u2 _ _ c3 (u1 _ _ c1 e))))
  have lq : q < g5.objs.size := Heap.lt_size hq5
  refine (show wpAny _ _ (Builtin.SmallTypes.ownedTupleHandOut (.ref q) (.ref g5.objs.size) >>= _) _ _ _ from wpAny_bind ?_)
  unfold Builtin.SmallTypes.ownedTupleHandOut
  have hq6 : ZipS (g5.push { cls := .type "tuple", data := .seq #[x, y] }) q T1 T2 .ellipsis := Heap.get?_push_of_some _ hq5
  refine wpAny_bind (wpAny_setField_rec hq6 (by simp) fun g7 hq7 b7 => ?_)
  replace hq7 : ZipS g7 q T1 T2 (rawInt g5.objs.size) := hq7
  refine wpAny_setField_rec hq7 (by simp) fun g8 hq8 b8 => ?_
  replace hq8 : ZipS g8 q T1 T2 (rawInt g5.objs.size) := hq8
  have u8 : ∀ c o, c ≠ q → g5.get? c = some o → g8.get? c = some o := fun c o c1 e => b8.extBut _ _ c1 (b7.extBut _ _ c1 (Heap.get?_push_of_some _ e))
  have n8 : IsPair g8 g5.objs.size x y := b8.extBut _ _ (Nat.ne_of_gt lq) (b7.extBut _ _ (Nat.ne_of_gt lq) (Heap.get?_push_size _ rfl))
  have z8 : g8.objs.size = g5.objs.size + 1 := by rw [b8.1, b7.1, Heap.size_push]
  rw [sz] at hq8 n8 z8
  refine wpAny_pure ⟨_, rfl, (show Q (.ref g5.objs.size) _ from ?_)⟩
  rw [sz]
  have f1 : At1 (k1 + 1) g8 := W1.keep st1' (fun o e => u8 _ o D.i1z (u5 _ o D.TOi1.symm (u4 _ o D.i12 (u3 _ o D.TOi1.symm e)))) fun o e => u8 _ o D.l1z (u5 _ o D.l1TO (u4 _ o D.l1i2 (u3 _ o D.l1TO e)))
  have f2 : At2 (k2 + 1) g8 := W2.keep st2' (fun o e => u8 _ o D.i2z (u5 _ o D.TOi2.symm e)) fun o e => u8 _ o D.l2z (u5 _ o D.l2TO e)
  exact hQ g8 hq8 (u8 _ _ D.TOz p5) f1 f2 n8 z8 fun c o c1 c2 c3 c4 e => u8 c o c1 (k5 c o c1 c2 c3 c4 e)
end
end DL
/-! DXs: zip(.., strict=True): the end. -/
namespace DL
open PySem PySem.Spec PyProof.Rows L2
section
variable {P : Program} {w : World} {A : Around} {E : Value → Shared → Prop} {s : Shared} {q T1 T2 a1 a2 l1 l2 : Addr} {k1 k2 : Nat} {xs ys : Array Value} {At1 At2 : Nat → Heap → Prop}
theorem zipS_end {a b : Value} {Q : Fin → Shared → Prop} (hh : A.handled = none) (D : ZipApart q T1 T2 a1 a2 l1 l2) (W1 : WkIt P w a1 l1 xs At1) (W2 : WkIt P w a2 l2 ys At2)
    (hq : ZipS s.heap q T1 T2 .none) (h1 : IsPair s.heap T1 (.ref a1) (.ref a2)) (h2 : IsPair s.heap T2 a b) (st1 : At1 k1 s.heap) (st2 : At2 k2 s.heap) (hx : xs[k1]? = none) (hy : ys[k2]? = none)
    (hE : ∀ h' e, (∀ c o, c ≠ q → c ≠ T2 → c ≠ a1 → c ≠ a2 → s.heap.get? c = some o → h'.get? c = some o) → (∃ o, h'.get? e = some o ∧ o.cls = .type "StopIteration") → E (.ref e) { s with heap := h' }) :
    wpAny (model P w) A (Builtin.«zip.__next__» ⟨[.ref q], []⟩) Q E s := by
  show wpAny _ _ (field (.ref q) 2 >>= _) _ _ _
  refine wpAny_bind (wpAny_field hq rfl (x := .bool true) rfl (show wpAny _ _ (field (.ref q) 3 >>= _) _ _ _ from ?_))
  refine wpAny_bind (wpAny_field hq rfl (x := .ref T1) rfl (wpAny_bind (wpAny_seqItems h1 rfl (show wpAny _ _ (Builtin.SmallTypes.ownedTupleIsFree (.ref q) >>= _) _ _ _ from wpAny_bind ?_))))
  unfold Builtin.SmallTypes.ownedTupleIsFree
  refine wpAny_bind (wpAny_field hq rfl (x := .none) rfl (wpAny_pure ?_))
  simp only [if_true]
  refine wpAny_bind (wpAny_rule (wpAny_bind (wpAny_field hq rfl (x := .ref T2) rfl (wpAny_bind (wpAny_setField_rec hq (by simp) fun g1 hq1 b1 => ?_)))))
  replace hq1 : ZipS g1 q T1 T2 .ellipsis := hq1
  refine wpAny_bind ?_
  simp only [List.zipIdx_cons, List.zipIdx_nil, List.forIn_cons, List.forIn_nil]
  have u1 : ∀ c o, c ≠ q → s.heap.get? c = some o → g1.get? c = some o := fun c o hc e => b1.extBut _ _ hc e
  refine wpAny_bind (wpAny_bind (wpAny_onRaise (show wpAny _ _ (Builtin.SmallTypes.nextOrEnd (.ref a1)) _ _ _ from ?_)))
  refine orEnd_stop W1 hh (W1.keep st1 (fun o => u1 _ o D.i1z) fun o => u1 _ o D.l1z) hx fun g2 b2 => ?_
  have hq2 : ZipS g2 q T1 T2 .ellipsis := b2 _ _ D.i1z.symm hq1
  refine wpAny_bind (wpAny_setField_rec hq2 (by simp) fun g3 hq3 b3 => ?_)
  have u3 : ∀ c o, c ≠ q → c ≠ a1 → s.heap.get? c = some o → g3.get? c = some o := fun c o c1 c2 e => b3.extBut _ _ c1 (b2 _ _ c2 (u1 _ _ c1 e))
  refine wpAny_bind ?_
  show wpAny _ _ (forIn (([Value.ref a1, Value.ref a2].drop 1).zipIdx 1) _ _ >>= _) _ _ _
  simp only [List.drop_succ_cons, List.drop_zero, List.zipIdx_cons, List.zipIdx_nil, List.forIn_cons, List.forIn_nil]
  refine wpAny_bind (wpAny_bind (wpAny_bind (orEnd_stop W2 hh (W2.keep st2 (fun o => u3 _ o D.i2z D.i12.symm) fun o => u3 _ o D.l2z D.l2i1) hy fun g4 b4 => ?_)))
  have u4 : ∀ c o, c ≠ q → c ≠ a1 → c ≠ a2 → s.heap.get? c = some o → g4.get? c = some o := fun c o c1 c2 c3 e => b4 _ _ c3 (u3 _ _ c1 c2 e)
  simp only [Option.isSome_none, Bool.false_eq_true, if_false]
  refine wpAny_pure (wpAny_pure (wpAny_bind (wpAny_rule ?_)))
  unfold Builtin.SmallTypes.stopIteration
  refine wpAny_bind ?_
  simp only [newExc, newTuple]
  refine wpAny_bind (wpAny_newObj_type (wpAny_bind (m := firstArgMember _ _) (wpAny_of_eq (a := Value.none) (by first | rfl | (simp only [firstArgMember]; rfl)) (wpAny_newObj_type ?_ (by size_fits)))) (by size_fits))
  simp only [raiseNew]
  refine wpAny_bind (wpAny_handled ?_)
  rw [hh]
  refine wpAny_bind (wpAny_pure (wpAny_throw (hE _ _ (fun c o c1 c2 c3 c4 e => Heap.get?_push_of_some _ (Heap.get?_push_of_some _ (u4 c o c1 c3 c4 e))) ⟨_, Heap.get?_push_size _ rfl, rfl⟩)))
theorem nextS_item {x y a b : Value} {Q : Option Value → Shared → Prop} (D : ZipApart q T1 T2 a1 a2 l1 l2) (W1 : WkIt P w a1 l1 xs At1) (W2 : WkIt P w a2 l2 ys At2)
    (hq : ZipS s.heap q T1 T2 .none) (h1 : IsPair s.heap T1 (.ref a1) (.ref a2)) (h2 : IsPair s.heap T2 a b) (st1 : At1 k1 s.heap) (st2 : At2 k2 s.heap) (hx : xs[k1]? = some x) (hy : ys[k2]? = some y)
    (hQ : ∀ h', ZipS h' q T1 T2 (rawInt s.heap.objs.size) → IsPair h' T2 x y → At1 (k1 + 1) h' → At2 (k2 + 1) h' → IsPair h' s.heap.objs.size x y → h'.objs.size = s.heap.objs.size + 1 →
      (∀ c o, c ≠ q → c ≠ T2 → c ≠ a1 → c ≠ a2 → s.heap.get? c = some o → h'.get? c = some o) → Q (some (.ref s.heap.objs.size)) { s with heap := h' }) :
    wpAny (model P w) A (pyNext (.ref q)) Q E s := by
  unfold pyNext
  exact wpAny_bind (wpAny_attempt (wpAny_callSpecial?_slot (name := Str.ofString "__next__") ⟨_, hq, rfl⟩ F.slot_zip_next
    (wpAny_call_entry F.slot_zip_next ⟨_, hq, rfl⟩ F.entry_zip_next (zipS_item D W1 W2 hq h1 h2 st1 st2 hx hy fun h' c1 c2 c3 c4 c5 c6 c7 => wpAny_pure (hQ h' c1 c2 c3 c4 c5 c6 c7)) (F.args_zip_next_1 _))))
theorem nextS_end {a b : Value} {Q : Option Value → Shared → Prop} (hh : A.handled = none) (D : ZipApart q T1 T2 a1 a2 l1 l2) (W1 : WkIt P w a1 l1 xs At1) (W2 : WkIt P w a2 l2 ys At2)
    (hq : ZipS s.heap q T1 T2 .none) (h1 : IsPair s.heap T1 (.ref a1) (.ref a2)) (h2 : IsPair s.heap T2 a b) (st1 : At1 k1 s.heap) (st2 : At2 k2 s.heap) (hx : xs[k1]? = none) (hy : ys[k2]? = none)
    (hQ : ∀ h', (∀ c o, c ≠ q → c ≠ T2 → c ≠ a1 → c ≠ a2 → s.heap.get? c = some o → h'.get? c = some o) → Q none { s with heap := h' }) : wpAny (model P w) A (pyNext (.ref q)) Q E s := by
  unfold pyNext
  refine wpAny_bind (wpAny_attempt (wpAny_callSpecial?_slot (name := Str.ofString "__next__") ⟨_, hq, rfl⟩ F.slot_zip_next
    (wpAny_call_entry F.slot_zip_next ⟨_, hq, rfl⟩ F.entry_zip_next (zipS_end hh D W1 W2 hq h1 h2 st1 st2 hx hy fun h' e hk he => ?_) (F.args_zip_next_1 _))))
  obtain ⟨o, ho, hc⟩ := he
  exact wpAny_bind (wpAny_isInstance (T := "StopIteration") (b := true) ⟨o, ho, hc⟩ isSubtype_stop (wpAny_pure (hQ _ hk)))
end
end DL
/-! DXt: zip(.., strict=True): made. -/
namespace DL
open PySem PySem.Spec PyProof.Rows L2
abbrev zS1 (h : Heap) (o1 : Obj) : Heap := h.push o1
abbrev zS2 (h : Heap) (o1 o2 : Obj) : Heap := (zS1 h o1).push o2
abbrev zS3 (h : Heap) (o1 o2 : Obj) : Heap := (zS2 h o1 o2).push { cls := .type "tuple", data := .seq #[.ref h.objs.size, .ref (zS1 h o1).objs.size] }
abbrev zS4 (h : Heap) (o1 o2 : Obj) : Heap := (zS3 h o1 o2).push { cls := .type "tuple", data := .seq #[.none, .none] }
abbrev zS5 (h : Heap) (o1 o2 : Obj) : Heap := (zS4 h o1 o2).push { cls := .type "zip", data := .fields #[.none, .bool false, .bool true, .ref (zS2 h o1 o2).objs.size, .ref (zS3 h o1 o2).objs.size] }
theorem zS_type (a b v : Value) : checkTypeCall "zip" ⟨[a, b], [(Str.ofString "strict", v)]⟩ = pure () := by kernel_rfl
theorem zS_new (a b v : Value) : checkBuiltinCall "zip.__new__" ⟨[.type "zip", a, b], [(Str.ofString "strict", v)]⟩ = pure () := by kernel_rfl
theorem zS_init (obj a b v : Value) : argsOk "object.__init__" ⟨[obj, a, b], [(Str.ofString "strict", v)]⟩ := by unfold argsOk; kernel_rfl
theorem zS_meets {v1 v2 : Value} {o1 o2 : Obj} {H1 H2 : Heap → Prop} (B1 : PySem.Begins v1 o1 H1) (B2 : PySem.Begins v2 o2 H2) :
    Meets (Builtin.«zip.__new__» ⟨[.type "zip", v1, v2], [(Str.ofString "strict", .bool true)]⟩) (fun _ R s => H1 s.heap ∧ H2 s.heap ∧
      R (.ok (.ret (.ref (zS4 s.heap o1 o2).objs.size))) { s with heap := zS5 s.heap o1 o2 }) :=
  .of_wp fun prog w A R s h => by
    obtain ⟨hp, g, d, tk, os⟩ := s
    obtain ⟨i1, i2, h⟩ := h
    have hsub := sub_zip
    have q1 : ∀ {A' : Around} {E : Value → Shared → Prop} {Q : Value → Shared → Prop}, Q (.ref hp.objs.size) ⟨hp.push o1, g, d, tk, os⟩ → wpAny (model prog w) A' (pyIter v1) Q E ⟨hp, g, d, tk, os⟩ := fun q => B1.iter prog w _ _ ⟨hp, g, d, tk, os⟩ _ i1 q
    have q2 : ∀ {A' : Around} {E : Value → Shared → Prop} {Q : Value → Shared → Prop}, Q (.ref (hp.push o1).objs.size) ⟨(hp.push o1).push o2, g, d, tk, os⟩ → wpAny (model prog w) A' (pyIter v2) Q E ⟨hp.push o1, g, d, tk, os⟩ := fun q => B2.iter prog w _ _ ⟨hp.push o1, g, d, tk, os⟩ _ (B2.keeps _ _ i2 fun b o e => Heap.get?_push_of_some _ e) q
    have e1 : (Str.ofString "strict" != ("strict" : Str)) = false := by decide +kernel
    wp_walk using q1, q2
    exact ⟨_, rfl, h⟩
section
variable {prog : Program} {w : World} {A : Around} {E : Value → Shared → Prop} {s : Shared}
/-- zip(v1, v2, strict=True): its five new cells -/
theorem zS_call {v1 v2 : Value} {o1 o2 : Obj} {H1 H2 : Heap → Prop} {Q : Value → Shared → Prop} (B1 : PySem.Begins v1 o1 H1) (B2 : PySem.Begins v2 o2 H2) (i1 : H1 s.heap) (i2 : H2 s.heap)
    (h : ∀ h', ZipS h' (s.heap.objs.size + 4) (s.heap.objs.size + 2) (s.heap.objs.size + 3) .none → IsPair h' (s.heap.objs.size + 2) (.ref s.heap.objs.size) (.ref (s.heap.objs.size + 1)) →
      IsPair h' (s.heap.objs.size + 3) .none .none → h'.get? s.heap.objs.size = some o1 → h'.get? (s.heap.objs.size + 1) = some o2 → h'.objs.size = s.heap.objs.size + 5 →
      (∀ c o, s.heap.get? c = some o → h'.get? c = some o) → Q (.ref (s.heap.objs.size + 4)) { s with heap := h' }) :
    wpAny (model prog w) A (call (.type "zip") [v1, v2] [(Str.ofString "strict", .bool true)]) Q E s := by
  refine PySem.callType_newKw F.called_zip (by decide) (zS_type _ _ _) (zS_new _ _ _) (fun obj => zS_init obj _ _ _) F.entry_zip_new (zS_meets B1 B2) ⟨i1, i2, ?_⟩
  have z1 : (zS1 s.heap o1).objs.size = s.heap.objs.size + 1 := Heap.size_push ..
  have z2 : (zS2 s.heap o1 o2).objs.size = s.heap.objs.size + 2 := (Heap.size_push ..).trans (congrArg (· + 1) z1)
  have z3 : (zS3 s.heap o1 o2).objs.size = s.heap.objs.size + 3 := (Heap.size_push ..).trans (congrArg (· + 1) z2)
  have z4 : (zS4 s.heap o1 o2).objs.size = s.heap.objs.size + 4 := (Heap.size_push ..).trans (congrArg (· + 1) z3)
  have z5 : (zS5 s.heap o1 o2).objs.size = s.heap.objs.size + 5 := (Heap.size_push ..).trans (congrArg (· + 1) z4)
  have p5 : (zS5 s.heap o1 o2).get? (zS4 s.heap o1 o2).objs.size = some _ := Heap.get?_push_size _ rfl
  have p4 : (zS5 s.heap o1 o2).get? (zS3 s.heap o1 o2).objs.size = some _ := Heap.get?_push_of_some _ (Heap.get?_push_size _ rfl)
  have p3 : (zS5 s.heap o1 o2).get? (zS2 s.heap o1 o2).objs.size = some _ := Heap.get?_push_of_some _ (Heap.get?_push_of_some _ (Heap.get?_push_size _ rfl))
  have p2 : (zS5 s.heap o1 o2).get? (zS1 s.heap o1).objs.size = some o2 := Heap.get?_push_of_some _ (Heap.get?_push_of_some _ (Heap.get?_push_of_some _ (Heap.get?_push_size _ B2.free)))
  have p1 : (zS5 s.heap o1 o2).get? s.heap.objs.size = some o1 := Heap.get?_push_of_some _ (Heap.get?_push_of_some _ (Heap.get?_push_of_some _ (Heap.get?_push_of_some _ (Heap.get?_push_size _ B1.free))))
  show _ ∧ _
  rw [z2, z3, z4] at p5
  rw [z1, z2] at p3
  rw [z3] at p4
  rw [z1] at p2
  rw [z4]
  exact ⟨⟨_, p5, rfl⟩, h _ p5 p3 p4 p1 p2 z5 fun c o e => Heap.get?_push_of_some _ (Heap.get?_push_of_some _ (Heap.get?_push_of_some _ (Heap.get?_push_of_some _ (Heap.get?_push_of_some _ e))))⟩
theorem zS_self {q T1 T2 : Addr} {f0 : Value} {Q : Value → Shared → Prop} (hq : ZipS s.heap q T1 T2 f0) (h : Q (.ref q) s) : wpAny (model prog w) A (pyIter (.ref q)) Q E s := by
  have hT : s.TypeIs (.ref q) "zip" := ⟨_, hq, rfl⟩
  exact wpAny_pyIter_slot hT F.slot_zip_iter (wpAny_call_entry F.slot_zip_iter hT F.entry_zip_iter (show wpAny _ _ (ret (.ref q)) _ _ s from wpAny_pure ⟨_, rfl, "zip", _, hT, F.slot_zip_next.lookup, h⟩) (F.args_zip_iter_1 _))
theorem zS_let {elts : List Expr} {x1} {pos : Pos} {q T1 T2 T : Addr} {Q : Unit → Shared → Prop} (hq : ZipS s.heap q T1 T2 (rawInt T)) (hQ : ∀ h', ZipS h' q T1 T2 .none → Heap.SameBut q s.heap h' → Q () { s with heap := h' }) :
    wpAny (model prog w) A (letOwnedTupleGo (.Tuple elts x1 pos) (.ref q) (.ref T)) Q E s := by
  unfold letOwnedTupleGo
  refine wpAny_bind (wpAny_load hq ?_)
  show wpAny _ _ (if (["enumerate", "zip", "dict_itemiterator", "dict_reverseitemiterator", "odict_iterator", "itertools.zip_longest", "itertools.pairwise"].contains "zip" && (#[rawInt T, .bool false, .bool true, .ref T1, .ref T2] : Array Value)[0]? == some (rawInt T)) = true then _ else _) Q E s
  rw [if_pos (by simp)]
  exact wpAny_bind (wpAny_rule (show wpAny _ _ (setField (.ref q) 0 .none) Q E s from wpAny_setField_rec hq (by simp) fun h' a b => hQ h' a b))
end
end DL
/-! DXu: zip(.., strict=True) of two lists, walked. -/
namespace DL
open PySem PySem.Spec PyProof.Rows L2
def ItzS (K : PySem.W.Frag) (a b : Addr) : It :=
  ⟨fun i H => ∃ (xs ys : List V) (x y : V), SqL K H a xs ∧ SqL K H b ys ∧ xs[i]? = some x ∧ ys[i]? = some y,
    fun i H v H' => ∃ T x y, v = .ref T ∧ H T = none ∧ H' = upd H T (.tup [x, y]) ∧ (∀ us, SqL K H a us → us[i]? = some x) ∧ ∀ us, SqL K H b us → us[i]? = some y,
    fun i H => ∃ xs ys : List V, SqL K H a xs ∧ SqL K H b ys ∧ xs.length ≤ i ∧ ys.length ≤ i⟩
theorem turn_zS {P : Program} {w : World} {K : PySem.W.Frag} {elts : List Expr} {kk : Nat} {tpos : Pos} {a b q T1 T2 a1 a2 : Addr} (D : ZipApart q T1 T2 a1 a2 a b) :
    Turn P w K (.Tuple elts kk tpos) (ItzS K a b) [q, T1, T2, a1, a2] q (fun i h => ZipS h q T1 T2 .none ∧ IsPair h T1 (.ref a1) (.ref a2) ∧ (∃ x y, IsPair h T2 x y) ∧ h.IsListIter a1 a i ∧ h.IsListIter a2 b i) where
  mem := by simp
  obj := fun i h st c hc => by
    obtain ⟨s1, s2, ⟨x, y, s3⟩, ⟨o1, e1, _, d1⟩, ⟨o2, e2, _, d2⟩⟩ := st
    have e' : c = q ∨ c = T1 ∨ c = T2 ∨ c = a1 ∨ c = a2 := by simpa using hc
    rcases e' with rfl | rfl | rfl | rfl | rfl
    · exact ⟨_, s1, fun v z => nomatch z⟩
    · exact ⟨_, s2, fun v z => nomatch z⟩
    · exact ⟨_, s3, fun v z => nomatch z⟩
    · exact ⟨o1, e1, fun v z => by rw [d1] at z; cases z⟩
    · exact ⟨o2, e2, fun v z => by rw [d2] at z; cases z⟩
  keep := fun i h h' st k => by
    obtain ⟨s1, s2, ⟨x, y, s3⟩, s4, s5⟩ := st
    exact ⟨k q (by simp) _ s1, k T1 (by simp) _ s2, ⟨x, y, k T2 (by simp) _ s3⟩, s4.at fun o z => k a1 (by simp) o z, s5.at fun o z => k a2 (by simp) o z⟩
  item := by
    intro X hP hw hK hc i pins s σ H E I hf st hg
    subst hP hw hK
    obtain ⟨s1, s2, ⟨x0, y0, s3⟩, s4, s5⟩ := st
    obtain ⟨xs, ys, x, y, hqx, hqy, hx, hy⟩ := hg
    obtain ⟨its, rv, p, _⟩ := I.list hqx
    obtain ⟨its2, rv2, p2, _⟩ := I.list hqy
    obtain ⟨u, hu, ru⟩ := rv.get hx
    obtain ⟨u2, hu2, ru2⟩ := rv2.get hy
    have lq : q < s.heap.objs.size := Heap.lt_size s1
    refine nextS_item D (wkLst D.l1i1) (wkLst D.l2i2) s1 s2 s3 ⟨s4, p.isList⟩ ⟨s5, p2.isList⟩ (x := u) (y := u2) (by simpa using hu) (by simpa using hu2) fun h' z' w2 v1 v2 hT hsz hk => ?_
    refine ⟨_, rfl, zS_let (s := { s with heap := h' }) z' fun h'' z'' sb => ?_⟩
    have hT2 : h''.get? s.heap.objs.size = some { cls := .type "tuple", data := .seq #[u, u2] } := (sb.2 _ (Nat.ne_of_gt lq)).trans hT
    have new : ObjOk X.prog X.w (upd H s.heap.objs.size (.tup [x, y])) h'' s.heap.objs.size (.tup [x, y]) := ⟨(by show 2 ≤ sizeLine; decide), [u, u2], .cons ru (.cons ru2 .nil), ⟨_, hT2, rfl, _, rfl⟩⟩
    have J : Inv X pins σ (upd H s.heap.objs.size (.tup [x, y])) { s with heap := h'' } :=
      I.turnedNew (t' := s.toks) (ch := [q, T1, T2, a1, a2]) (fun c o hb e => (sb.2 c fun z => hb (by simp [z])).trans (hk c o (fun z => hb (by simp [z])) (fun z => hb (by simp [z])) (fun z => hb (by simp [z])) (fun z => hb (by simp [z])) e)) hf (Nat.le_refl _) new
    refine ⟨.ref s.heap.objs.size, _, J, rfl, ⟨_, x, y, rfl, I.hok.fresh (Nat.le_refl _), rfl, fun l hl => by rw [I.list_inj hl hqx]; exact hx, fun l hl => by rw [I.list_inj hl hqy]; exact hy⟩, ⟨z'', ?_, ⟨u, u2, ?_⟩, ?_, ?_⟩, fun c hcm => ?_⟩
    · exact (sb.2 _ D.TIz).trans (hk _ _ D.TIz D.TITO D.TIi1 D.TIi2 s2)
    · exact (sb.2 _ D.TOz).trans w2
    · exact v1.1.at fun o z => (sb.2 _ D.i1z).trans z
    · exact v2.1.at fun o z => (sb.2 _ D.i2z).trans z
    · have hlt : c < s.heap.objs.size := by
        have e' : c = q ∨ c = T1 ∨ c = T2 ∨ c = a1 ∨ c = a2 := by simpa using hcm
        rcases e' with rfl | rfl | rfl | rfl | rfl
        · exact lq
        · exact Heap.lt_size s2
        · exact Heap.lt_size s3
        · obtain ⟨_, e1, _⟩ := s4; exact Heap.lt_size e1
        · obtain ⟨_, e2, _⟩ := s5; exact Heap.lt_size e2
      rw [upd_ne (Nat.ne_of_lt hlt)]
      exact (hf c hcm).1
  done := by
    intro X hP hw hK hc i pins s σ H E I hf st hg
    subst hP hw hK
    obtain ⟨s1, s2, ⟨x0, y0, s3⟩, s4, s5⟩ := st
    obtain ⟨xs, ys, hqx, hqy, f1, f2⟩ := hg
    obtain ⟨its, rv, p, _⟩ := I.list hqx
    obtain ⟨its2, rv2, p2, _⟩ := I.list hqy
    have n1 := rv.length
    have n2 := rv2.length
    exact nextS_end (I.ok.hd hc) D (wkLst D.l1i1) (wkLst D.l2i2) s1 s2 s3 ⟨s4, p.isList⟩ ⟨s5, p2.isList⟩ (by simp; omega) (by simp; omega) fun h' hk => ⟨rfl, I.turnedL (t' := s.toks) (ch := [q, T1, T2, a1, a2]) (fun c o hb e =>
      hk c o (fun z => hb (by simp [z])) (fun z => hb (by simp [z])) (fun z => hb (by simp [z])) (fun z => hb (by simp [z])) e) hf⟩
  self := fun A i s Q E st h => zS_self st.1 h
end DL
/-! DXv: for .. in zip(xs, ys, strict=True), the rule. -/
namespace DL
open PySem PySem.Spec PyProof.Rows L2
section
variable {M : Model} {A : Around} {E : Value → Shared → Prop} {s : Shared} {env : Env}
theorem with_typeK {pos : Pos} {T : String} {args : List (Bool × Sem Value)} {keywords : List (Option Str × Sem Value)} {Q : Value → Shared → Prop} (hp : args.any (·.1) = false) (hk : keywords.any (·.1.isNone) = false)
    (h : wpAny M A (evalArgs (.type T) true args keywords) (fun a s₁ => wpAny M A (call (.type T) a.pos a.kw) Q E s₁) E s) : wpAny M A (callWith pos (.type T) [] args keywords) Q E s := by
  unfold callWith
  refine wpAny_bind (wpAny_holding (wpAny_mono h (fun a s₁ h₁ => wpAny_bind (wpAny_standAt ?_)) fun _ _ x => x))
  simp only [hp, hk, Bool.or_false]
  refine wpAny_bind (wpAny_pure (wpAny_bind (wpAny_mono h₁ (fun r s₂ hr => wpAny_bind (wpAny_holding (wpAny_point (wpAny_pure hr)))) fun _ _ x => x)))
end
def iZipS (K : PySem.W.Frag) (ta tk : TA) : TI := fun σ H R => ta σ H fun vs H1 => tk σ H1 fun zs H2 => ∃ a b xs ys, vs = [.ref a, .ref b] ∧ zs = [.bl true] ∧ SqL K H2 a xs ∧ SqL K H2 b ys ∧ R (ItzS K a b) H2
theorem pi_zipS {X : Cx} {e e2 : Expr} {kws : List Keyword} {ta tk : TA} {p pos tpos : Pos} {elts : List Expr} {kk : Nat} (hg : Gl X "zip") (hm : X.mg "zip" = none) (ha : PA X [e, e2] ta) (hk : PK X kws tk)
    (he : backTo pos (starEach [e, e2] X.env) = (false, eval e X.env) :: backTo pos (starEach [e2] X.env) := by rfl) (hpl : (backTo pos (starEach [e, e2] X.env)).any (·.1) = false := by rfl)
    (hall : (backToKw pos (keywordEach kws X.env)).all (·.1.isSome) = true := by rfl) (hnone : (backToKw pos (keywordEach kws X.env)).any (·.1.isNone) = false := by rfl) (hks : (backToKw pos (keywordEach kws X.env)).filterMap (·.1) = [Str.ofString "strict"] := by rfl) :
    PI X (.Tuple elts kk tpos) (.Call (.Name "zip" p) [e, e2] kws pos) (iZipS X.K ta tk) := by
  refine ⟨fun pins s σ H R I h => ?_⟩
  refine wpAny_Call_Name_kw (ld_blt I hg hm PyProof.Rows.boot_zip ?_ (by decide) (by decide))
  refine with_typeK hpl hnone ?_
  rw [he]
  refine evalArgs_kwB hall ?_
  rw [← he]
  refine thn (ha.run pos pins s σ H _ I h) fun us s1 ⟨vs, H1, I1, r1, q1⟩ => thn (hk.run pos pins s1 σ H1 _ I1 q1) fun ws s2 ⟨zs, H2, I2, r2, q2⟩ => ?_
  obtain ⟨a, b, xs, ys, rfl, rfl, hx, hy, q⟩ := q2
  rw [hks]
  cases r2 with
  | cons rb rr =>
    cases rr
    obtain rfl := rb
    cases r1 with
    | cons ra rr =>
      cases rr with
      | cons rc rr =>
        cases rr
        cases ra
        cases rc
        obtain ⟨its, rv, p1, _⟩ := I2.list hx
        obtain ⟨its2, rv2, p2, _⟩ := I2.list hy
        show wpAny _ _ (call (.type "zip") [.ref a, .ref b] [(Str.ofString "strict", .bool true)]) _ _ s2
        refine zS_call (PySem.begins_list a its.toArray) (PySem.begins_list b its2.toArray) p1.isList p2.isList fun h' z1 z2 z3 z4 z5 zz hk' => ?_
        refine zS_self z1 ?_
        have I3 : Inv X pins σ H2 { s2 with heap := h' } := I2.kept (t' := s2.toks) hk'
        refine ⟨s2.heap.objs.size + 4, [s2.heap.objs.size + 4, s2.heap.objs.size + 2, s2.heap.objs.size + 3, s2.heap.objs.size, s2.heap.objs.size + 1], _, _, H2, rfl, I3, turn_zS (PySem.W.ktu_apart s2.heap.objs.size a b p1.lt p2.lt), ⟨z1, z2, ⟨_, _, z3⟩, ⟨_, z4, rfl, rfl⟩, ⟨_, z5, rfl, rfl⟩⟩, fun c hcm => ?_, q⟩
        have hle : s2.heap.objs.size ≤ c := by
          have e' : c = s2.heap.objs.size + 4 ∨ c = s2.heap.objs.size + 2 ∨ c = s2.heap.objs.size + 3 ∨ c = s2.heap.objs.size ∨ c = s2.heap.objs.size + 1 := by simpa using hcm
          rcases e' with rfl | rfl | rfl | rfl | rfl
          · exact Nat.le_add_right _ _
          · exact Nat.le_add_right _ _
          · exact Nat.le_add_right _ _
          · exact Nat.le_refl _
          · exact Nat.le_add_right _ _
        exact I2.fpOk hle (I2.hok.fresh hle)
def zipD (xs ys : List PyData) : List PyData := List.zipWith (fun a b => .tuple [a, b]) xs ys
theorem zipD_get {xs ys : List PyData} {i : Nat} {p : PyData} (h : (zipD xs ys)[i]? = some p) : ∃ a b, xs[i]? = some a ∧ ys[i]? = some b ∧ p = .tuple [a, b] := by
  unfold zipD at h
  rw [List.getElem?_zipWith] at h
  cases ha : xs[i]? with
  | none => rw [ha] at h; cases h
  | some a =>
    cases hb : ys[i]? with
    | none => rw [ha, hb] at h; cases h
    | some b => rw [ha, hb] at h; exact ⟨a, b, rfl, rfl, (Option.some.inj h).symm⟩
theorem zipD_len {xs ys : List PyData} (h : xs.length = ys.length) : (zipD xs ys).length = xs.length := by unfold zipD; rw [List.length_zipWith, ← h, Nat.min_self]
theorem yld_zipS {K : PySem.W.Frag} {S : Sd} {a b : Addr} {xs ys : List V} {ds es : List PyData} (h : SqL K S.F a xs) (h' : SqL K S.F b ys) (t : DvAll K S.F xs ds) (t' : DvAll K S.F ys es) (hl : ds.length = es.length) : Yld K (ItzS K a b) S (zipD ds es) := by
  intro W S1 m1 H1 l r
  have hh : SqL K H1 a xs := r.sub.sl (l.f.sl h)
  have hh' : SqL K H1 b ys := r.sub.sl (l.f.sl h')
  refine ⟨fun i p hp => ?_, xs, ys, hh, hh', by rw [zipD_len hl, t.length]; exact Nat.le_refl _, by rw [zipD_len hl, hl, t'.length]; exact Nat.le_refl _⟩
  obtain ⟨d1, d2, e1, e2, rfl⟩ := zipD_get hp
  obtain ⟨v1, hv1, rv1⟩ := DvAll.get' t e1
  obtain ⟨v2, hv2, rv2⟩ := DvAll.get' t' e2
  refine ⟨⟨xs, ys, v1, v2, hh, hh', hv1, hv2⟩, fun x H2 y => ?_⟩
  obtain ⟨T, w1, w2, rfl, hT, e, y1, y2⟩ := y
  subst e
  have ew1 : w1 = v1 := Option.some.inj ((y1 xs hh).symm.trans hv1)
  have ew2 : w2 = v2 := Option.some.inj ((y2 ys hh').symm.trans hv2)
  subst ew1
  subst ew2
  have hA : DvAll K S1.F [w1, w2] [d1, d2] := .cons (Dv.mono l.f rv1) (.cons (Dv.mono l.f rv2) .nil)
  exact new_tup r hA (R := fun v H' => ∃ S2, Rep K W S2 m1 H' ∧ Le S1 S2 ∧ Dv K S2.F v (.tuple [d1, d2])) (fun v H' S' d' r4 l4 e4 e => ⟨S', r4, l4, e ▸ e4⟩) T hT
def lst2 : List E → Option (List PyData × List PyData)
  | [.dat (.list ds), .dat (.list es)] => some (ds, es)
  | _ => none
def diZipS (ta : DTA) : DTI := fun g m Q => ta g m fun es m1 => ∃ ds ds', lst2 es = some (ds, ds') ∧ ds.length = ds'.length ∧ Q (zipD ds ds') m1
theorem di_zipS {X : Cx} {e e2 : Expr} {ta : DTA} {p pos tpos kp kp2 : Pos} {j} {elts : List Expr} {kk : Nat} (hm : X.mg "zip" = none) (h : DA X [e, e2] ta) (hg : Gl X "zip" := by rfl)
    (he : backTo pos (starEach [e, e2] X.env) = (false, eval e X.env) :: backTo pos (starEach [e2] X.env) := by rfl) (hpl : (backTo pos (starEach [e, e2] X.env)).any (·.1) = false := by rfl) :
    DI X (.Tuple elts kk tpos) (.Call (.Name "zip" p) [e, e2] [⟨some "strict", .Constant (.bool true) j kp, kp2⟩] pos) (diZipS ta) := by
  obtain ⟨_, pa, s⟩ := h.ex
  refine ⟨_, pi_zipS hg hm pa (pk_cons pe_bl pk_nil) he hpl rfl rfl rfl, fun W S g m σ H Q R r0 sl hq k => ?_⟩
  refine s W S g m σ H _ _ r0 sl hq fun vs H1 S1 es m1 r1 l1 ev q1 => ?_
  obtain ⟨ds, ds', hl, hlen, q2⟩ := q1
  match es, vs, ev, hl with
  | [.dat (.list ds), .dat (.list ds')], [v, v'], .cons h1 (.cons h2 .nil), rfl =>
    obtain ⟨a, xs, rfl, hF, hA⟩ := dv_lst h1
    obtain ⟨b, ys, rfl, hF', hA'⟩ := dv_lst h2
    exact ⟨a, b, xs, ys, rfl, rfl, Or.inl (Or.inl (r1.sub _ _ hF)), Or.inl (Or.inl (r1.sub _ _ hF')), k _ H1 S1 _ m1 r1 l1 (yld_zipS (Or.inl (Or.inl hF)) (Or.inl (Or.inl hF')) hA hA' hlen) q2⟩
def piZipS (es : List E) (m : Mm) : Rs (List PyData) := xo (lst2 es) fun p => xg (decide (p.1.length = p.2.length)) (.ok (zipD p.1 p.2) m)
def xiZipS (xa : XA) (g : Gm) (m : Mm) : Rs (List PyData) := rb (xa g m) piZipS
theorem ii_ZipS {Xp : XP} {xa : XA} : II (ofI Xp (xiZipS xa)) (diZipS (ofA Xp xa)) := fun g m Q q => post_rb q fun es m1 q => by
  obtain ⟨⟨ds, ds'⟩, h, q1⟩ := post_xo q
  obtain ⟨c, q2⟩ := post_xg q1
  exact ⟨ds, ds', h, of_decide_eq_true c, q2⟩
end DL
/-! DXw: zip(.., strict=True) of two lists or two tuples: walked, the rule. -/
namespace DL
open PySem PySem.Spec PyProof.Rows L2
def ItzST (K : PySem.W.Frag) (a b : Addr) : It :=
  ⟨fun i H => ∃ (xs ys : List V) (x y : V), SqT K H a xs ∧ SqT K H b ys ∧ xs[i]? = some x ∧ ys[i]? = some y,
    fun i H v H' => ∃ T x y, v = .ref T ∧ H T = none ∧ H' = upd H T (.tup [x, y]) ∧ (∀ us, SqT K H a us → us[i]? = some x) ∧ ∀ us, SqT K H b us → us[i]? = some y,
    fun i H => ∃ xs ys : List V, SqT K H a xs ∧ SqT K H b ys ∧ xs.length ≤ i ∧ ys.length ≤ i⟩
theorem turn_zST {P : Program} {w : World} {K : PySem.W.Frag} {elts : List Expr} {kk : Nat} {tpos : Pos} {a b q T1 T2 a1 a2 : Addr} (D : ZipApart q T1 T2 a1 a2 a b) :
    Turn P w K (.Tuple elts kk tpos) (ItzST K a b) [q, T1, T2, a1, a2] q (fun i h => ZipS h q T1 T2 .none ∧ IsPair h T1 (.ref a1) (.ref a2) ∧ (∃ x y, IsPair h T2 x y) ∧ h.IsTupleIter a1 a i ∧ h.IsTupleIter a2 b i) where
  mem := by simp
  obj := fun i h st c hc => by
    obtain ⟨s1, s2, ⟨x, y, s3⟩, ⟨o1, e1, _, d1⟩, ⟨o2, e2, _, d2⟩⟩ := st
    have e' : c = q ∨ c = T1 ∨ c = T2 ∨ c = a1 ∨ c = a2 := by simpa using hc
    rcases e' with rfl | rfl | rfl | rfl | rfl
    · exact ⟨_, s1, fun v z => nomatch z⟩
    · exact ⟨_, s2, fun v z => nomatch z⟩
    · exact ⟨_, s3, fun v z => nomatch z⟩
    · exact ⟨o1, e1, fun v z => by rw [d1] at z; cases z⟩
    · exact ⟨o2, e2, fun v z => by rw [d2] at z; cases z⟩
  keep := fun i h h' st k => by
    obtain ⟨s1, s2, ⟨x, y, s3⟩, s4, s5⟩ := st
    exact ⟨k q (by simp) _ s1, k T1 (by simp) _ s2, ⟨x, y, k T2 (by simp) _ s3⟩, s4.at fun o z => k a1 (by simp) o z, s5.at fun o z => k a2 (by simp) o z⟩
  item := by
    intro X hP hw hK hc i pins s σ H E I hf st hg
    subst hP hw hK
    obtain ⟨s1, s2, ⟨x0, y0, s3⟩, s4, s5⟩ := st
    obtain ⟨xs, ys, x, y, hqx, hqy, hx, hy⟩ := hg
    obtain ⟨its, rv, p, _⟩ := I.tuple hqx
    obtain ⟨its2, rv2, p2, _⟩ := I.tuple hqy
    obtain ⟨u, hu, ru⟩ := rv.get hx
    obtain ⟨u2, hu2, ru2⟩ := rv2.get hy
    have lq : q < s.heap.objs.size := Heap.lt_size s1
    refine nextS_item D (wkTup D.l1i1) (wkTup D.l2i2) s1 s2 s3 ⟨s4, (show s.heap.IsTuple a its.toArray from p)⟩ ⟨s5, (show s.heap.IsTuple b its2.toArray from p2)⟩ (x := u) (y := u2) (by simpa using hu) (by simpa using hu2) fun h' z' w2 v1 v2 hT hsz hk => ?_
    refine ⟨_, rfl, zS_let (s := { s with heap := h' }) z' fun h'' z'' sb => ?_⟩
    have hT2 : h''.get? s.heap.objs.size = some { cls := .type "tuple", data := .seq #[u, u2] } := (sb.2 _ (Nat.ne_of_gt lq)).trans hT
    have new : ObjOk X.prog X.w (upd H s.heap.objs.size (.tup [x, y])) h'' s.heap.objs.size (.tup [x, y]) := ⟨(by show 2 ≤ sizeLine; decide), [u, u2], .cons ru (.cons ru2 .nil), ⟨_, hT2, rfl, _, rfl⟩⟩
    have J : Inv X pins σ (upd H s.heap.objs.size (.tup [x, y])) { s with heap := h'' } :=
      I.turnedNew (t' := s.toks) (ch := [q, T1, T2, a1, a2]) (fun c o hb e => (sb.2 c fun z => hb (by simp [z])).trans (hk c o (fun z => hb (by simp [z])) (fun z => hb (by simp [z])) (fun z => hb (by simp [z])) (fun z => hb (by simp [z])) e)) hf (Nat.le_refl _) new
    refine ⟨.ref s.heap.objs.size, _, J, rfl, ⟨_, x, y, rfl, I.hok.fresh (Nat.le_refl _), rfl, fun l hl => by rw [I.tuple_inj hl hqx]; exact hx, fun l hl => by rw [I.tuple_inj hl hqy]; exact hy⟩, ⟨z'', ?_, ⟨u, u2, ?_⟩, ?_, ?_⟩, fun c hcm => ?_⟩
    · exact (sb.2 _ D.TIz).trans (hk _ _ D.TIz D.TITO D.TIi1 D.TIi2 s2)
    · exact (sb.2 _ D.TOz).trans w2
    · exact v1.1.at fun o z => (sb.2 _ D.i1z).trans z
    · exact v2.1.at fun o z => (sb.2 _ D.i2z).trans z
    · have hlt : c < s.heap.objs.size := by
        have e' : c = q ∨ c = T1 ∨ c = T2 ∨ c = a1 ∨ c = a2 := by simpa using hcm
        rcases e' with rfl | rfl | rfl | rfl | rfl
        · exact lq
        · exact Heap.lt_size s2
        · exact Heap.lt_size s3
        · obtain ⟨_, e1, _⟩ := s4; exact Heap.lt_size e1
        · obtain ⟨_, e2, _⟩ := s5; exact Heap.lt_size e2
      rw [upd_ne (Nat.ne_of_lt hlt)]
      exact (hf c hcm).1
  done := by
    intro X hP hw hK hc i pins s σ H E I hf st hg
    subst hP hw hK
    obtain ⟨s1, s2, ⟨x0, y0, s3⟩, s4, s5⟩ := st
    obtain ⟨xs, ys, hqx, hqy, f1, f2⟩ := hg
    obtain ⟨its, rv, p, _⟩ := I.tuple hqx
    obtain ⟨its2, rv2, p2, _⟩ := I.tuple hqy
    have n1 := rv.length
    have n2 := rv2.length
    exact nextS_end (I.ok.hd hc) D (wkTup D.l1i1) (wkTup D.l2i2) s1 s2 s3 ⟨s4, (show s.heap.IsTuple a its.toArray from p)⟩ ⟨s5, (show s.heap.IsTuple b its2.toArray from p2)⟩ (by simp; omega) (by simp; omega) fun h' hk => ⟨rfl, I.turnedL (t' := s.toks) (ch := [q, T1, T2, a1, a2]) (fun c o hb e =>
      hk c o (fun z => hb (by simp [z])) (fun z => hb (by simp [z])) (fun z => hb (by simp [z])) (fun z => hb (by simp [z])) e) hf⟩
  self := fun A i s Q E st h => zS_self st.1 h
def iZipSA (K : PySem.W.Frag) (ta tk : TA) : TI := fun σ H R => ta σ H fun vs H1 => tk σ H1 fun zs H2 => ∃ a b xs ys, vs = [.ref a, .ref b] ∧ zs = [.bl true] ∧ ((SqL K H2 a xs ∧ SqL K H2 b ys ∧ R (ItzS K a b) H2) ∨ (SqT K H2 a xs ∧ SqT K H2 b ys ∧ R (ItzST K a b) H2))
theorem pi_zipSA {X : Cx} {e e2 : Expr} {kws : List Keyword} {ta tk : TA} {p pos tpos : Pos} {elts : List Expr} {kk : Nat} (hg : Gl X "zip") (hm : X.mg "zip" = none) (ha : PA X [e, e2] ta) (hk : PK X kws tk)
    (he : backTo pos (starEach [e, e2] X.env) = (false, eval e X.env) :: backTo pos (starEach [e2] X.env) := by rfl) (hpl : (backTo pos (starEach [e, e2] X.env)).any (·.1) = false := by rfl)
    (hall : (backToKw pos (keywordEach kws X.env)).all (·.1.isSome) = true := by rfl) (hnone : (backToKw pos (keywordEach kws X.env)).any (·.1.isNone) = false := by rfl) (hks : (backToKw pos (keywordEach kws X.env)).filterMap (·.1) = [Str.ofString "strict"] := by rfl) :
    PI X (.Tuple elts kk tpos) (.Call (.Name "zip" p) [e, e2] kws pos) (iZipSA X.K ta tk) := by
  refine ⟨fun pins s σ H R I h => ?_⟩
  refine wpAny_Call_Name_kw (ld_blt I hg hm PyProof.Rows.boot_zip ?_ (by decide) (by decide))
  refine with_typeK hpl hnone ?_
  rw [he]
  refine evalArgs_kwB hall ?_
  rw [← he]
  refine thn (ha.run pos pins s σ H _ I h) fun us s1 ⟨vs, H1, I1, r1, q1⟩ => thn (hk.run pos pins s1 σ H1 _ I1 q1) fun ws s2 ⟨zs, H2, I2, r2, q2⟩ => ?_
  obtain ⟨a, b, xs, ys, rfl, rfl, q⟩ := q2
  rw [hks]
  cases r2 with
  | cons rb rr =>
    cases rr
    obtain rfl := rb
    cases r1 with
    | cons ra rr =>
      cases rr with
      | cons rc rr =>
        cases rr
        cases ra
        cases rc
        have fr : ∀ c ∈ [s2.heap.objs.size + 4, s2.heap.objs.size + 2, s2.heap.objs.size + 3, s2.heap.objs.size, s2.heap.objs.size + 1], FpOk X pins H2 c := fun c hcm => by
          have hle : s2.heap.objs.size ≤ c := by
            have e' : c = s2.heap.objs.size + 4 ∨ c = s2.heap.objs.size + 2 ∨ c = s2.heap.objs.size + 3 ∨ c = s2.heap.objs.size ∨ c = s2.heap.objs.size + 1 := by simpa using hcm
            rcases e' with rfl | rfl | rfl | rfl | rfl
            · exact Nat.le_add_right _ _
            · exact Nat.le_add_right _ _
            · exact Nat.le_add_right _ _
            · exact Nat.le_refl _
            · exact Nat.le_add_right _ _
          exact I2.fpOk hle (I2.hok.fresh hle)
        show wpAny _ _ (call (.type "zip") [.ref a, .ref b] [(Str.ofString "strict", .bool true)]) _ _ s2
        rcases q with ⟨hx, hy, q⟩ | ⟨hx, hy, q⟩
        · obtain ⟨its, rv, p1, _⟩ := I2.list hx
          obtain ⟨its2, rv2, p2, _⟩ := I2.list hy
          refine zS_call (PySem.begins_list a its.toArray) (PySem.begins_list b its2.toArray) p1.isList p2.isList fun h' z1 z2 z3 z4 z5 zz hk' => zS_self z1 ?_
          have I3 : Inv X pins σ H2 { s2 with heap := h' } := I2.kept (t' := s2.toks) hk'
          exact ⟨s2.heap.objs.size + 4, [s2.heap.objs.size + 4, s2.heap.objs.size + 2, s2.heap.objs.size + 3, s2.heap.objs.size, s2.heap.objs.size + 1], _, _, H2, rfl, I3, turn_zS (PySem.W.ktu_apart s2.heap.objs.size a b p1.lt p2.lt), ⟨z1, z2, ⟨_, _, z3⟩, ⟨_, z4, rfl, rfl⟩, ⟨_, z5, rfl, rfl⟩⟩, fr, q⟩
        · obtain ⟨its, rv, p1, _⟩ := I2.tuple hx
          obtain ⟨its2, rv2, p2, _⟩ := I2.tuple hy
          obtain ⟨o1, ho1, _⟩ := id p1
          obtain ⟨o2, ho2, _⟩ := id p2
          refine zS_call (PySem.begins_tuple a its.toArray) (PySem.begins_tuple b its2.toArray) (show s2.heap.IsTuple a its.toArray from p1) (show s2.heap.IsTuple b its2.toArray from p2) fun h' z1 z2 z3 z4 z5 zz hk' => zS_self z1 ?_
          have I3 : Inv X pins σ H2 { s2 with heap := h' } := I2.kept (t' := s2.toks) hk'
          exact ⟨s2.heap.objs.size + 4, [s2.heap.objs.size + 4, s2.heap.objs.size + 2, s2.heap.objs.size + 3, s2.heap.objs.size, s2.heap.objs.size + 1], _, _, H2, rfl, I3, turn_zST (PySem.W.ktu_apart s2.heap.objs.size a b (Heap.lt_size ho1) (Heap.lt_size ho2)), ⟨z1, z2, ⟨_, _, z3⟩, ⟨_, z4, rfl, rfl⟩, ⟨_, z5, rfl, rfl⟩⟩, fr, q⟩
theorem yld_zipST {K : PySem.W.Frag} {S : Sd} {a b : Addr} {xs ys : List V} {ds es : List PyData} (h : SqT K S.F a xs) (h' : SqT K S.F b ys) (t : DvAll K S.F xs ds) (t' : DvAll K S.F ys es) (hl : ds.length = es.length) : Yld K (ItzST K a b) S (zipD ds es) := by
  intro W S1 m1 H1 l r
  have hh : SqT K H1 a xs := r.sub.st (l.f.st h)
  have hh' : SqT K H1 b ys := r.sub.st (l.f.st h')
  refine ⟨fun i p hp => ?_, xs, ys, hh, hh', by rw [zipD_len hl, t.length]; exact Nat.le_refl _, by rw [zipD_len hl, hl, t'.length]; exact Nat.le_refl _⟩
  obtain ⟨d1, d2, e1, e2, rfl⟩ := zipD_get hp
  obtain ⟨v1, hv1, rv1⟩ := DvAll.get' t e1
  obtain ⟨v2, hv2, rv2⟩ := DvAll.get' t' e2
  refine ⟨⟨xs, ys, v1, v2, hh, hh', hv1, hv2⟩, fun x H2 y => ?_⟩
  obtain ⟨T, w1, w2, rfl, hT, e, y1, y2⟩ := y
  subst e
  have ew1 : w1 = v1 := Option.some.inj ((y1 xs hh).symm.trans hv1)
  have ew2 : w2 = v2 := Option.some.inj ((y2 ys hh').symm.trans hv2)
  subst ew1
  subst ew2
  have hA : DvAll K S1.F [w1, w2] [d1, d2] := .cons (Dv.mono l.f rv1) (.cons (Dv.mono l.f rv2) .nil)
  exact new_tup r hA (R := fun v H' => ∃ S2, Rep K W S2 m1 H' ∧ Le S1 S2 ∧ Dv K S2.F v (.tuple [d1, d2])) (fun v H' S' d' r4 l4 e4 e => ⟨S', r4, l4, e ▸ e4⟩) T hT
def seq2 : List E → Option (List PyData × List PyData)
  | [.dat (.list ds), .dat (.list es)] => some (ds, es)
  | [.dat (.tuple ds), .dat (.tuple es)] => some (ds, es)
  | _ => none
def diZipSA (ta : DTA) : DTI := fun g m Q => ta g m fun es m1 => ∃ ds ds', seq2 es = some (ds, ds') ∧ ds.length = ds'.length ∧ Q (zipD ds ds') m1
theorem di_zipSA {X : Cx} {e e2 : Expr} {ta : DTA} {p pos tpos kp kp2 : Pos} {j} {elts : List Expr} {kk : Nat} (hm : X.mg "zip" = none) (h : DA X [e, e2] ta) (hg : Gl X "zip" := by rfl)
    (he : backTo pos (starEach [e, e2] X.env) = (false, eval e X.env) :: backTo pos (starEach [e2] X.env) := by rfl) (hpl : (backTo pos (starEach [e, e2] X.env)).any (·.1) = false := by rfl) :
    DI X (.Tuple elts kk tpos) (.Call (.Name "zip" p) [e, e2] [⟨some "strict", .Constant (.bool true) j kp, kp2⟩] pos) (diZipSA ta) := by
  obtain ⟨_, pa, s⟩ := h.ex
  refine ⟨_, pi_zipSA hg hm pa (pk_cons pe_bl pk_nil) he hpl rfl rfl rfl, fun W S g m σ H Q R r0 sl hq k => ?_⟩
  refine s W S g m σ H _ _ r0 sl hq fun vs H1 S1 es m1 r1 l1 ev q1 => ?_
  obtain ⟨ds, ds', hl, hlen, q2⟩ := q1
  match es, vs, ev, hl with
  | [.dat (.list ds), .dat (.list ds')], [v, v'], .cons h1 (.cons h2 .nil), rfl =>
    obtain ⟨a, xs, rfl, hF, hA⟩ := dv_lst h1
    obtain ⟨b, ys, rfl, hF', hA'⟩ := dv_lst h2
    exact ⟨a, b, xs, ys, rfl, rfl, Or.inl ⟨Or.inl (Or.inl (r1.sub _ _ hF)), Or.inl (Or.inl (r1.sub _ _ hF')), k _ H1 S1 _ m1 r1 l1 (yld_zipS (Or.inl (Or.inl hF)) (Or.inl (Or.inl hF')) hA hA' hlen) q2⟩⟩
  | [.dat (.tuple ds), .dat (.tuple ds')], [v, v'], .cons h1 (.cons h2 .nil), rfl =>
    obtain ⟨a, xs, rfl, hF, hA⟩ := dv_tup h1
    obtain ⟨b, ys, rfl, hF', hA'⟩ := dv_tup h2
    exact ⟨a, b, xs, ys, rfl, rfl, Or.inr ⟨r1.sub.st hF, r1.sub.st hF', k _ H1 S1 _ m1 r1 l1 (yld_zipST hF hF' hA hA' hlen) q2⟩⟩
def piZipSA (es : List E) (m : Mm) : Rs (List PyData) := xo (seq2 es) fun p => xg (decide (p.1.length = p.2.length)) (.ok (zipD p.1 p.2) m)
def xiZipSA (xa : XA) (g : Gm) (m : Mm) : Rs (List PyData) := rb (xa g m) piZipSA
theorem ii_ZipSA {Xp : XP} {xa : XA} : II (ofI Xp (xiZipSA xa)) (diZipSA (ofA Xp xa)) := fun g m Q q => post_rb q fun es m1 q => by
  obtain ⟨⟨ds, ds'⟩, h, q1⟩ := post_xo q
  obtain ⟨c, q2⟩ := post_xg q1
  exact ⟨ds, ds', h, of_decide_eq_true c, q2⟩
theorem seq2_l {ds es : List PyData} : seq2 [.dat (.list ds), .dat (.list es)] = some (ds, es) := rfl
theorem seq2_t {ds es : List PyData} : seq2 [.dat (.tuple ds), .dat (.tuple es)] = some (ds, es) := rfl
end DL
/-! DXx: str(x) of a whole number or a text; max, min of two whole numbers. -/
namespace DL
open PySem PySem.Spec PyProof.Rows L2
section
variable {K : PySem.W.Frag}
def fStrOf : FN := fun ds Q => match ds with
  | [.int i] => i.natAbs.log2 < 1920 ∧ Q (.str (toString i))
  | [.str a] => Q (.str a)
  | _ => False
theorem opN_strOf : OpN K (fun xs H Q => (∃ i : Int, xs = [.int i] ∧ i.natAbs.log2 < 1920 ∧ Q (.str (toString i)) H) ∨ ∃ a, xs = [.str a] ∧ Q (.str a) H) fStrOf := by
  intro W S m H vs ds Q R r va q k
  match ds, va, q with
  | [.int i], va, q =>
    obtain ⟨v, rfl, h⟩ := vwAll1 va
    cases vw_int h
    exact Or.inl ⟨i, rfl, q.1, k _ H S _ r (Le.refl S) (.str _) q.2⟩
  | [.str a], va, q =>
    obtain ⟨v, rfl, h⟩ := vwAll1 va
    cases vw_str h
    exact Or.inr ⟨a, rfl, k _ H S _ r (Le.refl S) (.str _) q⟩
def yStrOf : YN
  | [.int i] => og (decide (i.natAbs.log2 < 1920)) (.str (toString i))
  | [.str a] => some (.str a)
  | _ => none
theorem ok_StrOf : YNOk yStrOf fStrOf := fun ds d Q h q => by
  unfold yStrOf at h
  split at h
  · obtain ⟨c, e⟩ := og_some h
    subst e
    exact ⟨of_decide_eq_true c, q⟩
  · cases h
    exact q
  · cases h
def fMax : FN := fun ds Q => match ds with
  | [.int i, .int j] => Q (.int (if j > i then j else i))
  | _ => False
def fMin : FN := fun ds Q => match ds with
  | [.int i, .int j] => Q (.int (if j < i then j else i))
  | _ => False
theorem opN_max : OpN K (fun xs H Q => ∃ i j : Int, xs = [.int i, .int j] ∧ Q (.int (if j > i then j else i)) H) fMax := by
  intro W S m H vs ds Q R r va q k
  match ds, va, q with
  | [.int i, .int j], va, q =>
    obtain ⟨v, w, rfl, h, h'⟩ := vwAll2 va
    cases vw_int h
    cases vw_int h'
    exact ⟨i, j, rfl, k _ H S _ r (Le.refl S) (.int _) q⟩
theorem opN_min : OpN K (fun xs H Q => ∃ i j : Int, xs = [.int i, .int j] ∧ Q (.int (if j < i then j else i)) H) fMin := by
  intro W S m H vs ds Q R r va q k
  match ds, va, q with
  | [.int i, .int j], va, q =>
    obtain ⟨v, w, rfl, h, h'⟩ := vwAll2 va
    cases vw_int h
    cases vw_int h'
    exact ⟨i, j, rfl, k _ H S _ r (Le.refl S) (.int _) q⟩
def yMax : YN
  | [.int i, .int j] => some (.int (if j > i then j else i))
  | _ => none
def yMin : YN
  | [.int i, .int j] => some (.int (if j < i then j else i))
  | _ => none
theorem ok_Max : YNOk yMax fMax := fun ds d Q h q => by
  unfold yMax at h
  split at h <;> cases h
  exact q
theorem ok_Min : YNOk yMin fMin := fun ds d Q h q => by
  unfold yMin at h
  split at h <;> cases h
  exact q
end
theorem call_strOf {X : Cx} : CallR X (.type "str") (fun xs H Q => (∃ i : Int, xs = [.int i] ∧ i.natAbs.log2 < 1920 ∧ Q (.str (toString i)) H) ∨ ∃ a, xs = [.str a] ∧ Q (.str a) H) := CallR.or call_str_int SkE.call_str_str
end DL
/-! DXy: a def that calls itself: its function by fuel. -/
namespace DL
open PySem PySem.Spec PyProof.Rows L2
def noF : XF := fun _ _ => .no
section
variable {P : Program} {w : World} {K : PySem.W.Frag} {mg : Str → Option Value} {base : Heap} {f : Addr} {fd : FuncData} {ps : List Str}
theorem fnD_no {k : Nat} : FnD P w K mg base k f fd ps (ofF xp0 noF) := ⟨fun vs H Q X h => h.1, fun A outer s H args us vs Q Xe _ _ _ _ _ h => by
  obtain ⟨_, _, _, _, _, _, _, hd, _⟩ := h
  exact (hd : False).elim⟩
theorem fuelD {L : Nat} (x : Nat → XF) (h0 : x 0 = noF) (step : ∀ n, FnD P w K mg base (L + n) f fd ps (ofF xp0 (x n)) → FnD P w K mg base (L + n + 1) f fd ps (ofF xp0 (x (n + 1)))) : ∀ n, FnD P w K mg base (L + n) f fd ps (ofF xp0 (x n))
  | 0 => by
    rw [h0]
    exact fnD_no
  | n + 1 => step n (fuelD x h0 step n)
end
end DL
/-! DYa: bools as numbers, a tuple beside the empty one, repr and str of anything. -/
namespace DL
open PySem PySem.Spec PyProof.Rows L2
/-! ### b + i, b - i, -b, str(b) -/
def bI (b : Bool) : Int := if b = true then 1 else 0
theorem gives_neg_b (p : Bool) : Gives (Builtin.«int.__neg__» ⟨[.bool p], []⟩) (.int (-(if p = true then (1 : Int) else 0))) :=
  .of_wp fun M A E s Q h => by obtain ⟨hp, g, d, tk, os⟩ := s; wp_walk; exact ⟨_, rfl, h⟩
def rBI (f : Int → Int → Int) : R2 := fun x y H Q => ∃ b j, x = .bl b ∧ y = .int j ∧ Q (.int (f (bI b) j)) H
section
variable {X : Cx}
theorem op_addBI : OpR X (binaryOp .Add) (rBI fun i j => i + j) := by
  intro pins s σ H x y v u Q I rx ry h
  obtain ⟨b, j, rfl, rfl, q⟩ := h
  cases rx
  obtain ⟨t, rfl⟩ := ry
  exact PySem.IntBool.add_bool_int ⟨.int _, H, I.tok _, ⟨_, rfl⟩, q⟩
theorem op_subBI : OpR X (binaryOp .Sub) (rBI fun i j => i - j) := by
  intro pins s σ H x y v u Q I rx ry h
  obtain ⟨b, j, rfl, rfl, q⟩ := h
  cases rx
  obtain ⟨t, rfl⟩ := ry
  exact PySem.IntBool.sub_bool_int ⟨.int _, H, I.tok _, ⟨_, rfl⟩, q⟩
theorem un_negB : UnR X (unaryOp .USub) (fun x H Q => (∃ i, x = .int i ∧ Q (.int (-i)) H) ∨ ∃ b, x = .bl b ∧ Q (.int (-(bI b))) H) := by
  intro pins s σ H x v Q I rx h
  rcases h with ⟨i, rfl, q⟩ | ⟨b, rfl, q⟩
  · exact un_neg pins s σ H (.int i) v Q I rx ⟨i, rfl, q⟩
  · cases rx
    exact unaryOp_gives (op := .USub) rfl rfl F.slot_bool_neg F.entry_int_neg (F.args_int_neg_1 _) (gives_neg_b b) ⟨.int _, H, I.tok _, ⟨_, rfl⟩, q⟩
theorem call_str_bl : CallR X (.type "str") (fun xs H Q => ∃ b, xs = [.bl b] ∧ Q (.str (if b then "True" else "False")) H) := by
  intro pins s σ H xs us Q I r h
  obtain ⟨b, rfl, q⟩ := h
  obtain ⟨u, rfl, r1⟩ := vals1 r
  cases r1
  exact PySem.P.str_of_bool ⟨.str _, H, I.tok _, ⟨_, rfl⟩, q⟩
end
def rAddB (K : PySem.W.Frag) : R2 := fun x y H Q => rAddA K x y H Q ∨ rBI (fun i j => i + j) x y H Q
theorem op_addB {X : Cx} : OpR X (binaryOp .Add) (rAddB X.K) := OpR.or2 op_addA op_addBI
def fAddB : F2 := fun a b Q => match a, b with
  | .bool p, .int j => Q (.int (bI p + j))
  | a, b => fAdd a b Q
theorem op2_addB {K : PySem.W.Frag} : Op2 K (rAddB K) fAddB := by
  intro W S m H x y a b Q R r va vb q k
  unfold fAddB at q
  split at q
  · rename_i p j
    exact Or.inr ⟨p, j, vw_bl va, vw_int vb, k _ H S _ r (Le.refl S) (.int _) q⟩
  · exact Or.inl (op2_add W S m H x y a b Q R r va vb q k)
def yAddB : Y2
  | .bool p, .int j => some (.int (bI p + j))
  | a, b => yAdd a b
theorem ok_AddB : Y2Ok yAddB fAddB := fun a b d Q h q => by
  unfold yAddB at h
  unfold fAddB
  split at h
  · cases h
    exact q
  · first | exact ok_Add a b d Q h q | (split <;> first | exact ok_Add _ _ d Q h q | (exfalso; simp_all))
def rSubB : R2 := fun x y H Q => rI0 (fun i j => .int (i - j)) x y H Q ∨ rBI (fun i j => i - j) x y H Q
theorem op_subB {X : Cx} : OpR X (binaryOp .Sub) rSubB := OpR.or2 op_sub op_subBI
def fSubB : F2 := fun a b Q => match a, b with
  | .bool p, .int j => Q (.int (bI p - j))
  | a, b => fSub a b Q
theorem op2_subB {K : PySem.W.Frag} : Op2 K rSubB fSubB := by
  intro W S m H x y a b Q R r va vb q k
  unfold fSubB at q
  split at q
  · rename_i p j
    exact Or.inr ⟨p, j, vw_bl va, vw_int vb, k _ H S _ r (Le.refl S) (.int _) q⟩
  · exact Or.inl (op2_sub W S m H x y a b Q R r va vb q k)
def ySubB : Y2
  | .bool p, .int j => some (.int (bI p - j))
  | a, b => ySub a b
theorem ok_SubB : Y2Ok ySubB fSubB := fun a b d Q h q => by
  unfold ySubB at h
  unfold fSubB
  split at h
  · cases h
    exact q
  · first | exact ok_Sub a b d Q h q | (split <;> first | exact ok_Sub _ _ d Q h q | (exfalso; simp_all))
/-- -x -/
def numX : PyData → Option Int
  | .int i => some i
  | .bool b => some (bI b)
  | _ => none
def onNum (d : PyData) (P : Int → Prop) : Prop := match d with
  | .int i => P i
  | .bool b => P (bI b)
  | _ => False
def dNegB (ta : DTE) : DTE := fun g m Q => ta g m fun a m1 => onD a fun d => onNum d fun i => Q (.dat (.int (-i))) m1
section
variable {X : Cx} {e : Expr} {te : DTE} {pos : Pos}
theorem d_negB (h : DE X e te) : DE X (.UnaryOp .USub e pos) (dNegB te) := by
  obtain ⟨_, p, s⟩ := h.ex
  refine ⟨_, pe_un un_negB p, fun W S g m σ H Q R r0 sl hq k => ?_⟩
  refine s W S g m σ H _ _ r0 sl hq fun v H1 S1 e m1 r1 l1 ev q1 => ?_
  obtain ⟨d, rfl, q2⟩ := onD_of q1
  unfold onNum at q2
  split at q2
  · rename_i i
    exact Or.inl ⟨i, dv_int ev, k _ H1 S1 (.dat (.int (-i))) m1 r1 l1 (Dv.int _) q2⟩
  · rename_i b
    exact Or.inr ⟨b, dv_bl ev, k _ H1 S1 (.dat (.int (-(bI b)))) m1 r1 l1 (Dv.int _) q2⟩
  · exact q2.elim
end
def pNegB (a : E) (m : Mm) : Rs E := gD a fun d => xo (numX d) fun i => .ok (.dat (.int (-i))) m
def xNegB (xa : XE) (g : Gm) (m : Mm) : Rs E := rb (xa g m) pNegB
theorem numX_of {d : PyData} {i : Int} {P : Int → Prop} (h : numX d = some i) (q : P i) : onNum d P := by
  unfold numX at h
  split at h <;> cases h <;> exact q
theorem i_NegB {Xp : XP} {x1 : XE} : IE (ofE Xp (xNegB x1)) (dNegB (ofE Xp x1)) := fun g m Q q => post_rb q fun a m1 q => gD_of q fun d q => let ⟨i, h, q⟩ := post_xo q; numX_of h q
/-- str(x) -/
def fStrB : FN := fun ds Q => match ds with
  | [.bool b] => Q (.str (if b then "True" else "False"))
  | ds => fStrOf ds Q
def rStrB : List V → Hp → VK → Prop := fun xs H Q => ((∃ i : Int, xs = [.int i] ∧ i.natAbs.log2 < 1920 ∧ Q (.str (toString i)) H) ∨ ∃ a, xs = [.str a] ∧ Q (.str a) H) ∨ ∃ b : Bool, xs = [.bl b] ∧ Q (.str (if b then "True" else "False")) H
theorem opN_strB {K : PySem.W.Frag} : OpN K rStrB fStrB := by
  intro W S m H vs ds Q R r va q k
  unfold fStrB at q
  split at q
  · rename_i b
    obtain ⟨v, rfl, h⟩ := vwAll1 va
    cases vw_bl h
    exact Or.inr ⟨b, rfl, k _ H S _ r (Le.refl S) (.str _) q⟩
  · exact Or.inl (opN_strOf W S m H vs ds Q R r va q k)
theorem call_strB {X : Cx} : CallR X (.type "str") rStrB := CallR.or call_strOf call_str_bl
def yStrB : YN
  | [.bool b] => some (.str (if b then "True" else "False"))
  | ds => yStrOf ds
theorem ok_StrB : YNOk yStrB fStrB := fun ds d Q h q => by
  unfold yStrB at h
  unfold fStrB
  split at h
  · cases h
    exact q
  · first | exact ok_StrOf ds d Q h q | (split <;> first | exact ok_StrOf _ d Q h q | (exfalso; simp_all))
/-! ### a tuple beside () -/
def rEqT0 (K : PySem.W.Frag) (neg : Bool) : R2 := fun x y H Q => ∃ a b xs, x = .ref a ∧ y = .ref b ∧ SqT K H a xs ∧ SqT K H b [] ∧ Q (.bl (ng neg xs.isEmpty)) H
section
variable {X : Cx}
theorem is_tup {pins : List (Addr × Obj)} {σ : L2.St} {H : Hp} {s : Shared} (I : Inv X pins σ H s) {a : Addr} {xs : List V} (h : SqT X.K H a xs) : ∃ its : List Value, Vals xs its ∧ s.heap.IsTuple a its.toArray := by
  obtain ⟨its, rv, ⟨o, ho, hc, n, hd⟩, _⟩ := I.tuple h
  exact ⟨its, rv, o, ho, hc, n, hd⟩
theorem t0_val (xs : List V) (its : List Value) (h : Vals xs its) : ((List.range (min its.toArray.size (#[] : Array Value).size)).all (fun _ => true) && its.toArray.size == (#[] : Array Value).size) = xs.isEmpty := by
  cases h with
  | nil => rfl
  | cons _ _ => rfl
theorem op_eqT0 (hu : X.A.units + 64 < cLine) : OpR X (compareOp .Eq) (rEqT0 X.K false) := by
  intro pins s σ H x y v u Q I rx ry h
  obtain ⟨a, b, xs, rfl, rfl, ha, hb, q⟩ := h
  cases rx
  cases ry
  obtain ⟨its, rv, h1⟩ := is_tup I ha
  obtain ⟨jts, rw', h2⟩ := is_tup I hb
  cases rw'
  refine SeqAt.RcAt.tuples (e := fun _ => true) h1 h2 (by omega) (fun j j1 j2 => absurd j2 (Nat.not_lt_zero _)) _ _ _ _ ?_
  rw [t0_val xs its rv]
  exact ⟨.bl _, H, I, rfl, q⟩
theorem op_neT0 (hu : X.A.units + 64 < cLine) : OpR X (compareOp .NotEq) (rEqT0 X.K true) := by
  intro pins s σ H x y v u Q I rx ry h
  obtain ⟨a, b, xs, rfl, rfl, ha, hb, q⟩ := h
  cases rx
  cases ry
  obtain ⟨its, rv, h1⟩ := is_tup I ha
  obtain ⟨jts, rw', h2⟩ := is_tup I hb
  cases rw'
  refine SeqAt.RcNeAt.tuples (e := fun _ => true) h1 h2 (by omega) (fun j j1 j2 => absurd j2 (Nat.not_lt_zero _)) _ _ _ _ ?_
  rw [t0_val xs its rv]
  exact ⟨.bl _, H, I, rfl, q⟩
end
def fEqT (neg : Bool) : F2 := fun a b Q => match a, b with
  | .tuple xs, .tuple [] => Q (.bool (ng neg xs.isEmpty))
  | a, b => fEqN neg a b Q
theorem DvAll.emp {K : PySem.W.Frag} {F : Hp} {vs : List V} {ds : List PyData} (h : DvAll K F vs ds) : ds.isEmpty = vs.isEmpty := by
  cases h <;> rfl
section
variable {K : PySem.W.Frag}
theorem op2_eqT : Op2 K (fun x y H Q => rEqA K x y H Q ∨ rEqT0 K false x y H Q) (fEqT false) := by
  intro W S m H x y a b Q R r va vb q k
  unfold fEqT at q
  split at q
  · rename_i xs
    obtain ⟨a, us, rfl, ha, da⟩ := vw_tup r.sub va
    obtain ⟨b, ws, rfl, hb, db⟩ := vw_tup r.sub vb
    cases db
    refine Or.inr ⟨a, b, us, rfl, rfl, ha, hb, ?_⟩
    rw [← da.emp]
    exact k _ H S _ r (Le.refl S) (.bl _) q
  · exact Or.inl (op2_eq W S m H x y a b Q R r va vb q k)
theorem op2_neT : Op2 K (fun x y H Q => rNeA K x y H Q ∨ rEqT0 K true x y H Q) (fEqT true) := by
  intro W S m H x y a b Q R r va vb q k
  unfold fEqT at q
  split at q
  · rename_i xs
    obtain ⟨a, us, rfl, ha, da⟩ := vw_tup r.sub va
    obtain ⟨b, ws, rfl, hb, db⟩ := vw_tup r.sub vb
    cases db
    refine Or.inr ⟨a, b, us, rfl, rfl, ha, hb, ?_⟩
    rw [← da.emp]
    exact k _ H S _ r (Le.refl S) (.bl _) q
  · exact Or.inl (op2_ne W S m H x y a b Q R r va vb q k)
end
theorem op_eqT {X : Cx} (hu : X.A.units + 64 < cLine) : OpR X (compareOp .Eq) (fun x y H Q => rEqA X.K x y H Q ∨ rEqT0 X.K false x y H Q) := OpR.or2 (op_eqA hu) (op_eqT0 hu)
theorem op_neT {X : Cx} (hu : X.A.units + 64 < cLine) : OpR X (compareOp .NotEq) (fun x y H Q => rNeA X.K x y H Q ∨ rEqT0 X.K true x y H Q) := OpR.or2 (op_neA hu) (op_neT0 hu)
def yEqT (neg : Bool) : Y2
  | .tuple xs, .tuple [] => some (.bool (ng neg xs.isEmpty))
  | a, b => yEqN neg a b
theorem ok_EqT (neg : Bool) : Y2Ok (yEqT neg) (fEqT neg) := fun a b d Q h q => by
  unfold yEqT at h
  unfold fEqT
  split at h
  · cases h
    exact q
  · first | exact ok_EqN neg a b d Q h q | (split <;> first | exact ok_EqN neg _ _ d Q h q | (exfalso; simp_all))
/-! ### repr of anything -/
mutual
theorem Dv.reads2 {X : Cx} {pins : List (Addr × Obj)} {σ : L2.St} {H : Hp} {s : Shared} (I : Inv X pins σ H s) (hs : H sysModules = none) : ∀ (d : PyData) (v : V) (u : Value), Dv X.K H v d → RelV v u → ∃ as, Reads s.heap u d as ∧ sysModules ∉ as
  | .none, _, _, h, r => by
    cases h
    cases r
    exact ⟨_, Reads.none, List.not_mem_nil⟩
  | .bool b, _, _, h, r => by
    cases h
    cases r
    exact ⟨_, Reads.bool b, List.not_mem_nil⟩
  | .int i, _, _, h, r => by
    cases h
    obtain ⟨t, rfl⟩ := r
    exact ⟨_, Reads.int i t, List.not_mem_nil⟩
  | .str x, _, _, h, r => by
    cases h
    obtain ⟨t, rfl⟩ := r
    exact ⟨_, Reads.str x t, List.not_mem_nil⟩
  | .list ds, _, _, h, r => by
    cases h with
    | lst hl ha =>
      cases r
      obtain ⟨its, rv, ⟨o, n, ho, hc, _, hd⟩, _⟩ := I.list (SqL.of hl)
      obtain ⟨as, hr, hn⟩ := Dv.reads2All I hs ds _ its ha rv
      refine ⟨_, Reads.list ho hc hd hr, fun hm => ?_⟩
      rcases List.mem_cons.mp hm with e | hm
      · rw [← e, hs] at hl
        cases hl
      · exact hn hm
  | .tuple ds, _, _, h, r => by
    cases h with
    | tup hl ha =>
      cases r
      obtain ⟨its, rv, ⟨o, ho, hc, n, hd⟩, _⟩ := I.tuple hl
      obtain ⟨as, hr, hn⟩ := Dv.reads2All I hs ds _ its ha rv
      exact ⟨_, Reads.tuple ho hc hd hr, hn⟩
  | .dict ds, _, _, h, r => by
    cases h with
    | dic hl ha =>
      cases r
      obtain ⟨_, hsys, ks, rk, o, es, ep, ho, hex, hdat, _, hp, _⟩ := I.hok _ _ hl
      have h1 := keys_read (h := s.heap) hp
      rw [KV.keys rk, ← DvKv.keys ha] at h1
      obtain ⟨bs, h2, hn⟩ := Dv.reads2Kv I hs ds _ ks ha rk
      rw [← pairs_vals hp] at h2
      refine ⟨_, Reads.dict ho hex.1 hdat h1 h2, fun hm => ?_⟩
      rcases List.mem_cons.mp hm with e | hm
      · rw [← e] at hsys
        exact absurd hsys (by decide)
      · exact hn hm
theorem Dv.reads2All {X : Cx} {pins : List (Addr × Obj)} {σ : L2.St} {H : Hp} {s : Shared} (I : Inv X pins σ H s) (hs : H sysModules = none) : ∀ (ds : List PyData) (vs : List V) (us : List Value), DvAll X.K H vs ds → Vals vs us → ∃ as, ReadsAll s.heap us ds as ∧ sysModules ∉ as
  | [], _, _, h, r => by
    cases h
    cases r
    exact ⟨_, ReadsAll.nil, List.not_mem_nil⟩
  | d :: ds, _, _, h, r => by
    cases h with
    | cons h1 h2 =>
      cases r with
      | cons r1 r2 =>
        obtain ⟨as, q1, n1⟩ := Dv.reads2 I hs d _ _ h1 r1
        obtain ⟨bs, q2, n2⟩ := Dv.reads2All I hs ds _ _ h2 r2
        exact ⟨_, ReadsAll.cons q1 q2, fun hm => (List.mem_append.mp hm).elim n1 n2⟩
theorem Dv.reads2Kv {X : Cx} {pins : List (Addr × Obj)} {σ : L2.St} {H : Hp} {s : Shared} (I : Inv X pins σ H s) (hs : H sysModules = none) : ∀ (ds : List (PyData × PyData)) (kvs : List (Key × V)) (ks : List (Key × Value)), DvKv X.K H kvs ds → KV kvs ks → ∃ as, ReadsAll s.heap (ks.map (·.2)) (ds.map (·.2)) as ∧ sysModules ∉ as
  | [], _, _, h, r => by
    cases h
    cases r
    exact ⟨_, ReadsAll.nil, List.not_mem_nil⟩
  | (x, d) :: ds, _, _, h, r => by
    cases h with
    | cons h1 h2 =>
      cases r with
      | cons r1 r2 =>
        obtain ⟨as, q1, n1⟩ := Dv.reads2 I hs d _ _ h1 r1.2
        obtain ⟨bs, q2, n2⟩ := Dv.reads2Kv I hs ds _ _ h2 r2
        exact ⟨_, ReadsAll.cons q1 q2, fun hm => (List.mem_append.mp hm).elim n1 n2⟩
end
def rReprB (K : PySem.W.Frag) : List V → Hp → VK → Prop := fun xs H Q => ∃ x d, xs = [x] ∧ Dv K H x d ∧ d.showable = true ∧ d.depth ≤ 60 ∧ d.shown.length ≤ sizeLine ∧ Q (.str d.shown) H
theorem call_reprB {X : Cx} (hb : X.base.get? sysModules ≠ none) (hG : X.A.guards = some []) (hu : X.A.units + 64 < cLine) : CallR X (.builtin "repr") (rReprB X.K) := by
  intro pins s σ H xs us Q I r h
  obtain ⟨x, d, rfl, hd, hs, hdp, hz, q⟩ := h
  obtain ⟨u, rfl, rx⟩ := vals1 r
  have hH : H sysModules = none := by
    cases e : X.base.get? sysModules with
    | none => exact absurd e hb
    | some o => exact (I.bs _ _ e).2
  obtain ⟨as, rd, hsys⟩ := Dv.reads2 I hH d x u hd rx
  have hsm : d.hasDict = true → sysModules ∉ as := fun _ => hsys
  cases hd with
  | non =>
    cases rx
    exact P.repr_of_none ⟨.str _, H, I.tok _, ⟨_, rfl⟩, q⟩
  | bl b =>
    cases rx
    exact P.repr_of_bool ⟨.str _, H, I.tok _, ⟨_, rfl⟩, q⟩
  | int i =>
    obtain ⟨t, rfl⟩ := rx
    exact P.repr_of_int (of_decide_eq_true hs) ⟨.str _, H, I.tok _, ⟨_, rfl⟩, q⟩
  | str z =>
    obtain ⟨t, rfl⟩ := rx
    exact P.repr_of_str (hsz := hz) ⟨.str _, H, I.tok _, ⟨_, rfl⟩, q⟩
  | lst _ _ =>
    cases rx
    exact repr_of_reads' rd hs hsm hG (by omega) (fun _ _ e => e) (fun h' u tk hk => ⟨.str _, H, I.kept hk, ⟨_, rfl⟩, q⟩) hz
  | tup _ _ =>
    cases rx
    exact repr_of_reads' rd hs hsm hG (by omega) (fun _ _ e => e) (fun h' u tk hk => ⟨.str _, H, I.kept hk, ⟨_, rfl⟩, q⟩) hz
  | dic _ _ =>
    cases rx
    exact repr_of_reads' rd hs hsm hG (by omega) (fun _ _ e => e) (fun h' u tk hk => ⟨.str _, H, I.kept hk, ⟨_, rfl⟩, q⟩) hz
/-- what repr can show here: so deep, so long -/
structure ShowsB (d : PyData) : Prop where
  able : d.showable = true
  deep : d.depth ≤ 60
  long : d.shown.length ≤ sizeLine
def fReprB : FN := fun ds Q => match ds with
  | [d] => ShowsB d ∧ Q (.str d.shown)
  | _ => False
theorem opN_reprB {K : PySem.W.Frag} : OpN K (rReprB K) fReprB := by
  intro W S m H vs ds Q R r va q k
  match ds, va, q with
  | [d], va, q =>
    obtain ⟨v, rfl, h⟩ := vwAll1 va
    have hd : Dv K H v d := by
      rcases h with h | ⟨p, us, es, rfl, rfl, hH, hA⟩
      · exact Dv.mono r.sub h
      · exact .lst hH (DvAll.mono r.sub hA)
    exact ⟨v, d, rfl, hd, q.1.able, q.1.deep, q.1.long, k _ H S _ r (Le.refl S) (.str _) q.2⟩
def yReprB : YN
  | [d] => og (d.showable && decide (d.depth ≤ 60) && decide (d.shown.length ≤ sizeLine)) (.str d.shown)
  | _ => none
theorem ok_ReprB : YNOk yReprB fReprB := fun ds d Q h q => by
  unfold yReprB at h
  split at h
  · obtain ⟨c, e⟩ := og_some h
    subst e
    rw [Bool.and_eq_true, Bool.and_eq_true] at c
    exact ⟨⟨c.1.1, of_decide_eq_true c.1.2, of_decide_eq_true c.2⟩, q⟩
  · cases h
theorem yReprB_of {d : PyData} (h : ShowsB d) : yReprB [d] = some (.str d.shown) := by
  show og (d.showable && decide (d.depth ≤ 60) && decide (d.shown.length ≤ sizeLine)) _ = _
  rw [h.able, decide_eq_true h.deep, decide_eq_true h.long]
  rfl
end DL
/-! DYb: d.get(k) of a dict of data or of the ledger. -/
namespace DL
open PySem PySem.Spec PyProof.Rows L2
section
variable {X : Cx} {o e : Expr} {apos cpos : Pos} {to te : DTE}
def dGet1A (to te : DTE) : DTE := fun g m Q => to g m fun a m1 => isDicE m1 a ∧ te g m1 fun e m2 => onD e fun y => onKey y fun ky => getE m2 a ky (.dat .none) fun r => Q r m2
theorem d_get1A (hu : X.A.units + 1 < cLine) (ho : DE X o to) (he : DE X e te) (hm : M1 X o "get" apos e cpos := by exact ⟨rfl, rfl, rfl, rfl⟩) : DE X (.Call (.Attribute o "get" apos) [e] [] cpos) (dGet1A to te) := by
  obtain ⟨_, p1, s1⟩ := ho.ex
  obtain ⟨u2, p2, s2⟩ := he.ex
  refine ⟨_, pe_dget1 hu p1 p2 hm, fun W S g m σ H Q R r0 sl hq k => ?_⟩
  refine s1 W S g m σ H _ _ r0 sl hq fun x H1 S1 a m1 r1 l1 ea q1 => ?_
  obtain ⟨qa, q1⟩ := q1
  have args : ∀ p, (∀ y H3 S3 b m3, Rep X.K W S3 m3 H3 → Le S1 S3 → EvE X.K S3 y (.dat (keyD b)) → (getE m3 a b (.dat .none) fun r => Q r m3) → ∃ ov, DGet H3 p y ov ∧ R (ov.getD .non) H3) → u2 σ H1 fun y H2 => ∃ ov, DGet H2 p y ov ∧ R (ov.getD .non) H2 := fun p kk =>
    s2 W S1 g m1 σ H1 _ _ r1 (sl.mono l1) q1 fun y H2 S2 b m2 r2 l2 eb q2 => by
      obtain ⟨y', rfl, q4⟩ := onD_of q2
      obtain ⟨ky, rfl, q5⟩ := onKey_of q4
      exact kk y H2 S2 ky m2 r2 l2 eb q5
  cases a with
  | scr _ => exact qa.elim
  | dat d =>
    cases d with
    | dict kvs =>
      cases ea with
      | dic hF hA =>
        refine ⟨_, rfl, Or.inl ⟨_, Or.inl (r1.sub _ _ hF)⟩, args _ fun y H3 S3 b m3 r3 l3 eb q => ?_⟩
        cases dv_key eb
        have hH := r3.sub _ _ (l3.f _ _ hF)
        have q' : (match lookP kvs b with | some d => Q (.dat d) m3 | none => Q (.dat .none) m3) := q
        have l13 := l1.trans l3
        cases hl : lookP kvs b with
        | none =>
          rw [hl] at q'
          exact ⟨none, by rw [← lookP_none hA hl]; exact DGet.k hH, k .non H3 S3 (.dat .none) m3 r3 l13 Dv.non q'⟩
        | some d =>
          rw [hl] at q'
          obtain ⟨v, hv, rv⟩ := lookP_dv hA hl
          exact ⟨some v, dGet_of hH hv, k v H3 S3 (.dat d) m3 r3 l13 (Dv.mono l3.f rv) q'⟩
    | _ => exact qa.elim
  | loc j =>
    obtain ⟨kvs0, hm0⟩ := qa
    obtain ⟨p, hp, rfl⟩ := ea
    obtain ⟨ws0, hH0, _⟩ := r1.ok j p _ hp hm0
    refine ⟨p, rfl, Or.inl ⟨_, Or.inl hH0⟩, args p fun y H3 S3 b m3 r3 l3 eb q => ?_⟩
    cases dv_key eb
    obtain ⟨p', hp', e'⟩ : EvE X.K S3 (.ref p) (.loc j) := EvE.mono l3 ⟨p, hp, rfl⟩
    cases e'
    have q' : (match m3[j]? with | some (.dic kvs) => (match lookD kvs b with | some e => Q e m3 | none => Q (.dat .none) m3) | _ => False) := q
    have l13 := l1.trans l3
    split at q'
    · rename_i kvs hm
      obtain ⟨ws, hH, er⟩ := r3.ok j p _ hp' hm
      cases hl : lookD kvs b with
      | none =>
        rw [hl] at q'
        exact ⟨none, by rw [← look_none er hl]; exact DGet.k hH, k .non H3 S3 (.dat .none) m3 r3 l13 Dv.non q'⟩
      | some e1 =>
        rw [hl] at q'
        obtain ⟨v, hv, rv⟩ := look_ev er hl
        exact ⟨some v, dGet_of hH hv, k v H3 S3 e1 m3 r3 l13 rv q'⟩
    · exact q'.elim
end
section
variable {Xp : XP} {x1 x2 : XE}
def pGet1A (a e : E) (m : Mm) : Rs E := gD e fun y => xo (keyX y) fun ky => xo (dicX m a ky) fun r => .ok (r.getD (.dat .none)) m
def kGet1A (x : XE) (g : Gm) (a : E) (m : Mm) : Rs E := xg (isDX m a) (rb (x g m) (pGet1A a))
def xGet1A (o x : XE) (g : Gm) (m : Mm) : Rs E := rb (o g m) (kGet1A x g)
theorem i_Get1A : IE (ofE Xp (xGet1A x1 x2)) (dGet1A (ofE Xp x1) (ofE Xp x2)) := fun g m Q q => post_rb q fun a m1 q => let ⟨h, q⟩ := post_xg q; ⟨isDX_of h, post_rb q fun e m2 q => gD_of q fun y q => let ⟨k, hk, q⟩ := post_xo q; let ⟨p, hp, q⟩ := post_xo q; keyX_of hk (dicX_of hp q)⟩
end
theorem hsm_of {K : PySem.W.Frag} {base : Heap} (kI : K.In base) (h : (K.lookup sysModules).isSome = true) : base.get? sysModules ≠ none := by
  cases e : K.lookup sysModules with
  | none => rw [e] at h; cases h
  | some o => rw [kI _ _ e]; exact fun z => nomatch z
/-! ### xs + ys: a new list of the ledger -/
theorem dvs_ev' {K : PySem.W.Frag} {S : Sd} : ∀ {vs : List V} {ds : List PyData}, DvAll K S.F vs ds → EvEs K S vs (ds.map .dat)
  | _, _, .nil => .nil
  | _, _, .cons h t => .cons h (dvs_ev' t)
def addLX : PyData → PyData → Option (List PyData)
  | .list xs, .list ys => og (decide (xs.length + ys.length ≤ sizeLine)) (xs ++ ys)
  | _, _ => none
theorem addLX_some {a b : PyData} {zs : List PyData} (h : addLX a b = some zs) : ∃ xs ys, a = .list xs ∧ b = .list ys ∧ xs.length + ys.length ≤ sizeLine ∧ zs = xs ++ ys := by
  unfold addLX at h
  split at h
  · obtain ⟨c, e⟩ := og_some h
    exact ⟨_, _, rfl, rfl, of_decide_eq_true c, e.symm⟩
  · cases h
def dAddM (ta tb : DTE) : DTE := fun g m Q => ta g m fun a m1 => tb g m1 fun b m2 => asD m2 a fun x => asD m2 b fun y => ∃ zs, addLX x y = some zs ∧ Q (.loc m2.length) (m2 ++ [.lst (zs.map .dat)])
section
variable {X : Cx} {e1 e2 : Expr} {t1 t2 : DTE} {pos : Pos}
theorem d_addM (ha : DE X e1 t1) (hb : DE X e2 t2) : DE X (.BinOp e1 .Add e2 pos) (dAddM t1 t2) := by
  obtain ⟨_, p1, s1⟩ := ha.ex
  obtain ⟨_, p2, s2⟩ := hb.ex
  refine ⟨_, pe_op op_cat p1 p2, fun W S g m σ H Q R r0 sl hq k => ?_⟩
  refine s1 W S g m σ H _ _ r0 sl hq fun x H1 S1 a m1 r1 l1 ea q1 => ?_
  refine s2 W S1 g m1 σ H1 _ _ r1 (sl.mono l1) q1 fun y H2 S2 b m2 r2 l2 eb q2 => ?_
  obtain ⟨x', vx, q3⟩ := asD_of q2 r2 (EvE.mono l2 ea)
  obtain ⟨y', vy, q4⟩ := asD_of q3 r2 eb
  obtain ⟨zs, hz, q5⟩ := q4
  obtain ⟨xs, ys, rfl, rfl, hl, rfl⟩ := addLX_some hz
  obtain ⟨a', us, rfl, ha', da⟩ := vw_lst r2.sub vx
  obtain ⟨b', ws, rfl, hb', db⟩ := vw_lst r2.sub vy
  refine ⟨a', b', us, ws, rfl, rfl, ha', hb', by rw [da.length, db.length]; exact hl, fun p hp => ?_⟩
  obtain ⟨r3, l3, e3⟩ := r2.own (o := .lst (us ++ ws)) (d := .lst ((xs ++ ys).map .dat)) hp fun S' H' l' e' => ⟨_, e', EvEs.mono l' (dvs_ev' (da.append db))⟩
  exact k _ _ _ (.loc m2.length) _ r3 ((l1.trans l2).trans l3) ⟨p, e3, rfl⟩ q5
end
section
variable {Xp : XP} {x1 x2 : XE}
def pAddM (a b : E) (m : Mm) : Rs E := xo (asX m a) fun u => xo (asX m b) fun v => xo (addLX u v) fun zs => .ok (.loc m.length) (m ++ [.lst (zs.map .dat)])
def xAddM (xa xb : XE) (g : Gm) (m : Mm) : Rs E := rb (xa g m) (kP2 pAddM xb g)
theorem i_AddM : IE (ofE Xp (xAddM x1 x2)) (dAddM (ofE Xp x1) (ofE Xp x2)) := fun g m Q q =>
  post_rb q fun a m1 q => post_rb q fun b m2 q => let ⟨u, hu, q⟩ := post_xo q; let ⟨v, hv, q⟩ := post_xo q; let ⟨d, hd, q⟩ := post_xo q; asX_of hu (asX_of hv ⟨d, hd, q⟩)
end
theorem addLX_l {xs ys : List PyData} (h : xs.length + ys.length ≤ 16777216) : addLX (.list xs) (.list ys) = some (xs ++ ys) := og_dec h
theorem yEqT_t0 {neg : Bool} {xs : List PyData} : yEqT neg (.tuple xs) (.tuple []) = some (.bool (ng neg xs.isEmpty)) := rfl
theorem yEqT_ii {neg : Bool} {i j : Int} : yEqT neg (.int i) (.int j) = some (.bool (ng neg (decide (i = j)))) := rfl
theorem yEqT_bi {neg : Bool} {b : Bool} {j : Int} : yEqT neg (.bool b) (.int j) = some (.bool (ng neg (decide (bI b = j)))) := by
  show yEqN neg (.bool b) (.int j) = _
  have h : SeqAt.shaped (.bool b) = true := by unfold SeqAt.shaped; rw [PyData.canLay0, PyData.depth]; rfl
  have h' : SeqAt.shaped (.int j) = true := by unfold SeqAt.shaped; rw [PyData.canLay0, PyData.depth]; rfl
  rw [yEqN_of h h']
  have : PyData.eqv (.bool b) (.int j) = decide (bI b = j) := by unfold bI; rw [PyData.eqv, Bool.eq_iff_iff, beq_iff_eq, decide_eq_true_eq]
  rw [this]
end DL
/-! DYc: the end of a law, where sys.modules is known to stand (for repr of dicts with lists). -/
namespace DL
open PySem PySem.Spec PyProof.Rows L2
section
variable {P : Program} {w : World} {K : PySem.W.Frag} {mg mb : Str → Option Value} {k : Nat} {fa a : Addr} {fd : FuncData} {x : Str} {s1 : Shared} {vs : List Value} {ns : List Int}
/-- the law is called at the heap H that knows the script alone -/
theorem law_at2 {H : Hp} (KX : K.In s1.heap) (hns : s1.heap.Ns mainGlobals mg) (hb : s1.heap.Ns builtinsNs mb) (hbb : ∀ x : Str, x ≠ "__name__" → mb x = bootBuiltins x) (hlim : s1.heap.NoLimit) (hms : ∃ mm, s1.heap.Ns sysModules mm) (hg : s1.gens = #[]) (ha : s1.heap.get? a = some { cls := .type "list", data := .seq vs.toArray })
    (hO : Only H) (hok : HOk P w H s1.heap) (hA : ∀ b, H b ≠ none → b = a) (hK : H a ≠ none → K.lookup a = none) (hS : SqL K H a (ns.map V.int)) (hl : ns.length ≤ 63) (hr : Room k callerA)
    (F : ∀ base : Heap, K.In base → base.Ns mainGlobals mg → base.get? sysModules ≠ none → FnD P w K mg base k fa fd [x] spLawD) (hbind : ∀ (s : Shared) (u : Value), BindsTo s fd ⟨[u], []⟩ [(x, u)]) :
    codeAny (model P w) callerA (.call (.ref fa) ⟨[.ref a], []⟩) (fun r s' => r = .ok (.ret (.bool true)) ∧ OldK s1.heap s'.heap ∧ s'.os = s1.os ∧ AllBare s'.gens) s1 := by
  have only : ∀ b u, H b = some u → b = a := fun b u e => hA b (by rw [e]; exact fun z => nomatch z)
  have dicN : ∀ {b : Addr} {o : Obj} {es : Array DictEntry} {ep : Nat}, s1.heap.get? b = some o → o.data = .dict es ep → H b = none := fun {b o es ep} e d => by
    cases q : H b with
    | none => rfl
    | some u =>
      rw [only b u q, ha] at e
      cases e
      cases d
  have nsB : ∀ {b : Addr} {m : Str → Option Value}, s1.heap.Ns b m → (hidT s1.heap H).Ns b m := fun {b m} h => by
    obtain ⟨o, es, ep, e, d, r⟩ := h
    exact ⟨o, es, ep, hidT_get e (dicN e d), d, r⟩
  have kB : K.In (hidT s1.heap H) := fun b o e => hidT_get (KX b o e) (by
    cases q : H b with
    | none => rfl
    | some u =>
      have eb := only b u q
      rw [eb] at q e
      rw [hK (by rw [q]; exact fun z => nomatch z)] at e
      cases e)
  obtain ⟨mc, hl1, hl2⟩ := hlim
  have M : Mod K mg (hidT s1.heap H) := ⟨kB, nsB hns, ⟨mb, nsB hb, hbb⟩, ⟨mc, nsB hl1, hl2⟩⟩
  have noF : ∀ b, b ∉ frs ([] : List Env) := fun b hb => absurd (show b ∈ ([] : List Addr) from hb) List.not_mem_nil
  have e0 : Env0 P w K mg (hidT s1.heap H) callerA [] s1 H := ⟨rfl, M, fun b o e => of_hidT e, Nat.le_of_eq (hidT_size _ _), trivial, fun b hb => absurd hb (noF b), hok, .of_eq hg⟩
  have run := (F _ kB (nsB hns) (by obtain ⟨mm, h⟩ := hms; obtain ⟨o, es, ep, e, _⟩ := nsB h; rw [e]; exact fun z => nomatch z)).run callerA [] s1 H ⟨[.ref a], []⟩ [.ref a] [.ref a] _ _ rfl hr e0 (hbind s1 (.ref a)) (.cons rfl .nil) (toSp_law hS hl)
  refine codeAny_mono run fun r s' h => ?_
  match r, h with
  | .ok (.ret u), ⟨v, H', os, bare, un, hok', r', q⟩ =>
    have q' : v = .bl true := q
    subst q'
    have eu : u = Value.bool true := r'
    subst eu
    refine ⟨rfl, OldK.of_keep fun b o e => ?_, os, bare⟩
    cases q : H b with
    | none => exact un.keep b o e q (noF b) List.not_mem_nil
    | some u =>
      rcases hO b with z | ⟨ob, xs, z⟩
      · rw [q] at z
        cases z
      · obtain ⟨e1, _⟩ := hok b _ z
        obtain ⟨e2, _⟩ := hok' b _ (un.frzs b ob _ z)
        rw [e] at e1
        cases e1
        exact e2
theorem law_run2 (KX : K.In s1.heap) (hns : s1.heap.Ns mainGlobals mg) (hb : s1.heap.Ns builtinsNs mb) (hbb : ∀ x : Str, x ≠ "__name__" → mb x = bootBuiltins x) (hlim : s1.heap.NoLimit) (hms : ∃ mm, s1.heap.Ns sysModules mm) (hg : s1.gens = #[]) (ha : s1.heap.get? a = some { cls := .type "list", data := .seq vs.toArray })
    (hi : IntsAre vs ns) (hl : ns.length ≤ 63) (hr : Room k callerA) (F : ∀ base : Heap, K.In base → base.Ns mainGlobals mg → base.get? sysModules ≠ none → FnD P w K mg base k fa fd [x] spLawD) (hbind : ∀ (s : Shared) (u : Value), BindsTo s fd ⟨[u], []⟩ [(x, u)]) :
    codeAny (model P w) callerA (.call (.ref fa) ⟨[.ref a], []⟩) (fun r s' => r = .ok (.ret (.bool true)) ∧ OldK s1.heap s'.heap ∧ s'.os = s1.os ∧ AllBare s'.gens) s1 := by
  have rv := vals_ints hi
  have hz : (ns.map V.int).length ≤ sizeLine := by
    rw [List.length_map, sizeLine_eq]
    omega
  cases hk : K.lookup a with
  | some o =>
    have e := KX a o hk
    rw [ha] at e
    cases e
    refine law_at2 (H := fun _ => none) KX hns hb hbb hlim hms hg ha (fun _ => Or.inl rfl) (fun b u z => nomatch z) (fun b z => absurd rfl z) (fun z => absurd rfl z) (Or.inr ⟨_, vs.toArray, _, hk, rfl, rfl, rfl, ?_, by simpa using rv⟩) hl hr F hbind
    rw [List.size_toArray, ← rv.length]
    exact hz
  | none =>
    have at_a : upd (fun _ => none) a (.frz { cls := .type "list", data := .seq vs.toArray } (.lst (ns.map V.int))) a = some (.frz { cls := .type "list", data := .seq vs.toArray } (.lst (ns.map V.int))) := upd_same
    refine law_at2 (H := upd (fun _ => none) a (.frz { cls := .type "list", data := .seq vs.toArray } (.lst (ns.map V.int)))) KX hns hb hbb hlim hms hg ha (fun b => ?_) (fun b u z => ?_) (fun b z => ?_) (fun _ => hk) (Or.inl (Or.inr ⟨_, at_a⟩)) hl hr F hbind
    · by_cases c : b = a
      · rw [c]
        exact Or.inr ⟨_, _, at_a⟩
      · exact Or.inl (upd_ne c)
    · by_cases c : b = a
      · subst c
        rw [upd_same] at z
        cases z
        exact ⟨ha, hz, vs, _, rv, ha⟩
      · rw [upd_ne c] at z
        cases z
    · by_cases c : b = a
      · exact c
      · exact absurd (upd_ne c) z
end
/-- what k_head leaves, from the law's promise -/
theorem walkD2 {l : PySem.W.OpenLaw} {k : Nat} {q : Program} {loose : List Str} {XP : (Str → Option Value) → Heap → Prop} {YP : World → Heap → Prop} {d : DefRec} {K : Params → PySem.W.Frag} {x : Str} (hn : l.most = some 63) (hdf : d.params.defaults = []) (hr : Room k callerA) (hq : importsNone q = true)
    (hY : ∀ (w : World) (h : Heap), YP w h → (K w.params).In h)
    (F : ∀ (w : World) (mg : Str → Option Value) (fa : Addr) (h : Heap), (K w.params).In h → h.Ns mainGlobals mg → mg d.name = some (.ref fa) → ∃ fd : FuncData, (∀ (s : Shared) (u : Value), BindsTo s fd ⟨[u], []⟩ [(x, u)]) ∧
      ∀ base : Heap, (K w.params).In base → base.Ns mainGlobals mg → base.get? sysModules ≠ none → FnD l.prog w (K w.params) mg base k fa fd [x] spLawD) : PySem.W.WalkO q loose XP YP l.row.toRowW d [] (fun f vs => PySem.call f vs) := by
  refine Att.attach_call hn hdf fun w s0 s1 mg mb fa o pm cd doc a vs ns G Y ho hd hcd hmg hobj hints hlen hg => ?_
  obtain ⟨fd, hb, hF⟩ := F w mg fa _ (hY w _ Y) G.T.g hmg
  exact law_run2 (hY w _ Y) G.T.g G.T.b G.T.builtins G.T.nolimit (let ⟨mm, h, _⟩ := (G.T.seer hq).mods; ⟨mm, h⟩) hg hobj hints hlen hr hF hb
end DL
/-! DYd: xs[::-1] of a list or a tuple. -/
namespace DL
open PySem PySem.Spec PyProof.Rows L2 HT
section
variable {prog : Program} {w : World} {A : Around} {E : Value → Shared → Prop} {s : Shared}
theorem adj_rev (n : Nat) : Builtin.Slice.sliceAdjust none none (-1) (n : Int) = ((n : Int) - 1, -1) := by
  have h1 : ((-1 : Int) < 0) := by omega
  unfold Builtin.Slice.sliceAdjust
  simp only [h1, if_true]
theorem places_rev (n : Nat) : Builtin.Slice.slicePlaces ((n : Int) - 1) (-1) (-1) = n := by
  unfold Builtin.Slice.slicePlaces
  have h1 : ¬ ((-1 : Int) > 0) := by omega
  rw [if_neg h1]
  by_cases h : ((n : Int) - 1 > -1)
  · rw [if_pos h]
    have e : ((n : Int) - 1 - -1 - 1) / (- -1) = (n : Int) - 1 := by
      have : (- -1 : Int) = 1 := by omega
      rw [this, Int.ediv_one]
      omega
    rw [e]
    omega
  · rw [if_neg h]
    omega
theorem applied_rev {sl : Addr} {vl vu vs : Value} {n : Nat} {Q : Int × Int × Nat → Shared → Prop} (hs : s.heap.IsSliceOf sl vl vu vs) (pl : IsPart vl none) (pu : IsPart vu none) (ps : IsPart vs (some (-1)))
    (h : Q ((n : Int) - 1, -1, n) s) : wpAny (model prog w) A (Builtin.Slice.sliceApplied (.ref sl) (pure (n : Int))) Q E s := by
  obtain ⟨os, hos, hcs, hds⟩ := id hs
  unfold Builtin.Slice.sliceApplied Builtin.Slice.sliceFields
  refine wpAny_bind (wpAny_bind (wpAny_field hos hds (x := vl) rfl (wpAny_bind (wpAny_field hos hds (x := vu) rfl (wpAny_bind (wpAny_field hos hds (x := vs) rfl (wpAny_pure ?_)))))))
  refine wpAny_bind (slicePart_ ps ?_)
  show wpAny _ _ (if ((-1 : Int) == 0) = true then _ else _) _ _ s
  rw [if_neg (by decide)]
  refine wpAny_bind (slicePart_ pl (wpAny_bind (slicePart_ pu (wpAny_bind (wpAny_pure ?_)))))
  show wpAny _ _ (match Builtin.Slice.sliceAdjust none none (-1) (n : Int) with | (lo, hi) => pure (lo, (-1 : Int), Builtin.Slice.slicePlaces lo hi (-1))) _ _ s
  rw [adj_rev n]
  show wpAny _ _ (pure ((n : Int) - 1, (-1 : Int), Builtin.Slice.slicePlaces ((n : Int) - 1) (-1) (-1))) _ _ s
  rw [places_rev]
  exact wpAny_pure h
theorem fm_congr {α β : Type} {f g : α → Option β} : ∀ {l : List α}, (∀ m ∈ l, f m = g m) → l.filterMap f = l.filterMap g
  | [], _ => rfl
  | x :: l, h => by
    rw [List.filterMap_cons, List.filterMap_cons, h x (List.mem_cons_self ..), fm_congr fun m hm => h m (List.mem_cons_of_mem _ hm)]
theorem pick_rev (xs : Array Value) : ((List.range xs.size).filterMap fun (m : Nat) => xs[(((xs.size : Int) - 1) + (m : Int) * (-1)).toNat]?).toArray = xs.toList.reverse.toArray := by
  congr 1
  have e : xs.toList.reverse = (List.range xs.size).filterMap fun (m : Nat) => some (xs.toList.reverse[m]?.getD .none) := by
    rw [List.filterMap_eq_map']
    apply List.ext_getElem
    · rw [List.length_reverse, List.length_map, List.length_range, Array.length_toList]
    · intro i h1 h2
      rw [List.getElem_map, List.getElem_range, List.getElem?_eq_getElem h1]
      rfl
  rw [e]
  apply fm_congr
  intro m hm
  have hm' := List.mem_range.mp hm
  have e2 : (((xs.size : Int) - 1) + (m : Int) * (-1)).toNat = xs.size - 1 - m := by omega
  rw [e2]
  have h1 : m < xs.toList.reverse.length := by rw [List.length_reverse, Array.length_toList]; exact hm'
  rw [List.getElem?_eq_getElem h1, List.getElem_reverse]
  have h2 : xs.size - 1 - m < xs.size := by omega
  rw [Array.getElem?_eq_getElem h2]
  simp
theorem getItem_tuple_rev {t sl : Addr} {items : Array Value} {vl vu vs : Value} {Q : Value → Shared → Prop} (ht : IsTup s.heap t items) (hs : s.heap.IsSliceOf sl vl vu vs) (pl : IsPart vl none) (pu : IsPart vu none) (ps : IsPart vs (some (-1)))
    (h : Q (.ref s.heap.objs.size) { s with heap := s.heap.push { cls := .type "tuple", data := .seq items.toList.reverse.toArray } })
    (hsz : items.size ≤ sizeLine) : wpAny (model prog w) A (getItem (.ref t) (.ref sl)) Q E s := by
  have htake : sizeOk (.seq items.toList.reverse.toArray) := by
    show items.toList.reverse.toArray.size ≤ sizeLine
    rw [List.size_toArray, List.length_reverse, Array.length_toList]
    exact hsz
  obtain ⟨os, hos, hcs, hds⟩ := id hs
  have hTs : s.TypeIs (.ref sl) "slice" := ⟨os, hos, hcs⟩
  unfold getItem
  try with_reducible refine wpAny_holding ?_
  first | refine wpAny_bind (wpAny_pure ?_) | skip
  refine wpAny_bind (wpAny_sequenceKey ht.typeIs (by decide) ?_)
  refine wpAny_bind (wpAny_callSpecial?_slot (name := Str.ofString "__getitem__") ht.typeIs PyProof.Rows.slot_tuple_getitem
    (wpAny_call_entry PyProof.Rows.slot_tuple_getitem ht.typeIs entry_tuple_getitem ?_ (args_tuple_getitem _ _)))
  show wpAny _ _ (Builtin.Tuple.tupleItemsOf (.ref t) >>= _) _ _ s
  refine wpAny_bind (tupleItemsOf_ ht ?_)
  refine wpAny_bind (wpAny_typeOf hTs ?_)
  rw [if_pos (by decide)]
  refine wpAny_bind (applied_rev hs pl pu ps ?_)
  have hno : ¬ ((((items.size : Int) - 1) == 0 && (-1 : Int) == 1 && items.size == items.size) = true) := by
    intro q
    rw [Bool.and_eq_true, Bool.and_eq_true] at q
    exact absurd q.1.2 (by decide)
  show wpAny _ _ (if (((items.size : Int) - 1) == 0 && (-1 : Int) == 1 && items.size == items.size) = true then _ else _) _ _ s
  rw [if_neg hno, pick_rev]
  first
    | exact wpAny_bind (m := Builtin.Tuple.tupleExact _) (wpAny_newObj_type (wpAny_pure ⟨_, rfl, wpAny_pure h⟩) htake)
    | exact wpAny_bind (m := Builtin.Tuple.tupleExact _) (wpAny_newObj_type (wpAny_bind (wpAny_pure (wpAny_pure ⟨_, rfl, wpAny_pure h⟩))) htake)
    | exact wpAny_bind (wpAny_bind (m := Builtin.Tuple.tupleExact _) (wpAny_newObj_type (wpAny_pure (wpAny_pure ⟨_, rfl, wpAny_pure h⟩)) htake))
    | exact wpAny_bind (wpAny_bind (m := Builtin.Tuple.tupleExact _) (wpAny_newObj_type (wpAny_pure ⟨_, rfl, wpAny_pure h⟩) htake))
end
section
variable {X : Cx} {e e1 : Expr} {te : TE} {t1 : DTE} {pos : Pos}
def tRevA (K : PySem.W.Frag) (te : TE) : TE := fun σ H Q => te σ H fun x H1 => (∃ a xs, x = .ref a ∧ SqL K H1 a xs ∧ ∀ p, H1 p = none → Q (.ref p) (upd H1 p (.lst xs.reverse))) ∨ ∃ a xs, x = .ref a ∧ SqT K H1 a xs ∧ ∀ p, H1 p = none → Q (.ref p) (upd H1 p (.tup xs.reverse))
theorem pe_revA {k : Nat} {p1 p2 p3 pos : Pos} (he : PE X e te) : PE X (.Subscript e (.Slice none none (some (.UnaryOp .USub (.Constant (.int 1) k p1) p2)) p3) pos) (tRevA X.K te) := by
  refine ⟨fun pins s σ H Q I h => ?_⟩
  refine Subscript_ (thn (he.run pins s σ H _ I h) fun v s1 ⟨x, H1, I1, r1, q1⟩ => ?_)
  have hst : PO X (some (.UnaryOp .USub (.Constant (.int 1) k p1) p2)) (tPart (tUn (rU fun i => .int (-i)) (tC (.int 1)))) := po_some (pe_un un_neg pe_int)
  refine wpAny_Slice (thn (po_none.run pins s1 σ H1 (fun o H2 => o = none ∧ H2 = H1) I1 ⟨rfl, rfl⟩) fun vl s2 ⟨l, H2, I2, pl, el, e2⟩ => ?_)
  subst el e2
  refine thn (po_none.run pins s2 σ H2 (fun o H3 => o = none ∧ H3 = H2) I2 ⟨rfl, rfl⟩) fun vu s3 ⟨u, H3, I3, pu, eu, e3⟩ => ?_
  subst eu e3
  refine thn (hst.run pins s3 σ H3 (fun o H4 => o = some (-1) ∧ H4 = H3) I3 ⟨1, rfl, -1, rfl, rfl, rfl⟩) fun vs s4 ⟨o, H4, I4, ps, eo, e4⟩ => ?_
  subst eo e4
  have I5 : Inv X pins σ H4 { s4 with heap := s4.heap.push { cls := .type "slice", data := .fields #[vl, vu, vs] } } := I4.kept (t' := s4.toks) fun b ob q => Heap.get?_push_of_some _ q
  rcases q1 with ⟨a, xs, ex, hx, q⟩ | ⟨a, xs, ex, hx, q⟩
  · subst ex
    cases r1
    obtain ⟨its, r, ht, hz⟩ := I5.list hx
    have hlen := r.length
    show wpAny (model X.prog X.w) X.A (subscriptTail e (.Slice none none (some (.UnaryOp .USub (.Constant (.int 1) k p1) p2)) p3) (.ref a) (.ref s4.heap.objs.size)) (EP X pins σ Q) X.xe { s4 with heap := s4.heap.push { cls := .type "slice", data := .fields #[vl, vu, vs] } }
    refine tail_any (ops := [.ref a, .ref s4.heap.objs.size]) ht.isList.typeIs (PySem.slot_list_getitem.lookup) ?_ (by with_unfolding_all rfl)
    refine wpAny_getItem_list_slice ht.isList (Heap.IsSliceOf.new _ vl vu vs) pl pu ps (by decide) ?_ (by rw [List.size_toArray]; omega)
    rw [PySem.W.krv_pick]
    refine ⟨.ref _, _, I5.laid (t' := s4.toks) (o := .lst xs.reverse) (fun b ob q => Heap.get?_push_of_some _ q) (Nat.le_refl _) ?_, rfl, q _ (I5.hok.fresh (Nat.le_refl _))⟩
    exact ⟨by rw [List.length_reverse]; exact hz, _, 0, r.reverse, Heap.get?_push_size _ rfl⟩
  · subst ex
    cases r1
    obtain ⟨its, r, ht, hz⟩ := I5.tuple hx
    have hlen := r.length
    show wpAny (model X.prog X.w) X.A (subscriptTail e (.Slice none none (some (.UnaryOp .USub (.Constant (.int 1) k p1) p2)) p3) (.ref a) (.ref s4.heap.objs.size)) (EP X pins σ Q) X.xe { s4 with heap := s4.heap.push { cls := .type "slice", data := .fields #[vl, vu, vs] } }
    refine tail_any (ops := [.ref a, .ref s4.heap.objs.size]) ht.typeIs (PyProof.Rows.slot_tuple_getitem.lookup) ?_ (by with_unfolding_all rfl)
    refine getItem_tuple_rev ht (Heap.IsSliceOf.new _ vl vu vs) pl pu ps ?_ (by rw [List.size_toArray]; omega)
    refine ⟨.ref _, _, I5.laid (t' := s4.toks) (o := .tup xs.reverse) (fun b ob q => Heap.get?_push_of_some _ q) (Nat.le_refl _) ?_, rfl, q _ (I5.hok.fresh (Nat.le_refl _))⟩
    exact ⟨by rw [List.length_reverse]; exact hz, _, r.reverse, _, Heap.get?_push_size _ rfl, rfl, 0, by simp⟩
/-- reversed, of the same kind -/
def revX (m : Mm) (a : E) : Option PyData := match a with
  | .dat (.tuple ds) => some (.tuple ds.reverse)
  | a => (lstX m a).map fun ds => .list ds.reverse
def dRevA (ta : DTE) : DTE := fun g m Q => ta g m fun a m1 => ∃ d, revX m1 a = some d ∧ Q (.dat d) m1
theorem d_revA {k : Nat} {p1 p2 p3 : Pos} (ha : DE X e1 t1) : DE X (.Subscript e1 (.Slice none none (some (.UnaryOp .USub (.Constant (.int 1) k p1) p2)) p3) pos) (dRevA t1) := by
  obtain ⟨_, pa, sa⟩ := ha.ex
  refine ⟨_, pe_revA pa, fun W S g m σ H Q R r0 sl hq k => ?_⟩
  refine sa W S g m σ H _ _ r0 sl hq fun x H1 S1 a m1 r1 l1 ea q1 => ?_
  obtain ⟨d, hd, q⟩ := q1
  unfold revX at hd
  split at hd
  · rename_i ds
    cases hd
    have ea' : Dv X.K S1.F x (.tuple ds) := ea
    obtain ⟨a, us, rfl, ha, da⟩ := vw_tup r1.sub (Or.inl ea')
    exact Or.inr ⟨a, us, rfl, ha, new_tup r1 da.reverse fun v H' S' d r4 l4 e4 e => k v H' S' (.dat d) m1 r4 (l1.trans l4) e4 (by rw [e]; exact q)⟩
  · obtain ⟨ds, hl, e⟩ := omap hd
    subst e
    obtain ⟨p, vs, ds', rfl, hH, hA, q2⟩ := onList_of (lstX_of (P := fun ds' => ds' = ds) hl rfl) r1 ea
    subst q2
    exact Or.inl ⟨p, vs, rfl, Or.inl (Or.inl hH), new_lst r1 hA.reverse fun v H' S' d r4 l4 e4 e => k v H' S' (.dat d) m1 r4 (l1.trans l4) e4 (by rw [e]; exact q)⟩
end
def pRevA (a : E) (m : Mm) : Rs E := xo (revX m a) fun d => .ok (.dat d) m
def xRevA (x : XE) (g : Gm) (m : Mm) : Rs E := rb (x g m) pRevA
theorem i_RevA {Xp : XP} {x : XE} : IE (ofE Xp (xRevA x)) (dRevA (ofE Xp x)) := fun g m Q q => post_rb q fun a m1 q => let ⟨e, h, q⟩ := post_xo q; ⟨e, h, q⟩
theorem revX_t {m : Mm} {ds : List PyData} : revX m (.dat (.tuple ds)) = some (.tuple ds.reverse) := rfl
theorem revX_d {m : Mm} {ds : List PyData} : revX m (.dat (.list ds)) = some (.list ds.reverse) := rfl
theorem revX_l {m : Mm} {k : Nat} : revX m (.loc k) = (lstX m (.loc k)).map fun ds => .list ds.reverse := rfl
end DL
/-! DYe: own classes: instances of the ledger, fields, methods. -/
namespace DL
open PySem PySem.Spec PyProof.Rows L2

def putFE (f : Str) (e : E) : List (Str × E) → List (Str × E)
  | [] => [(f, e)]
  | (g, x) :: r => if g = f then (g, e) :: r else (g, x) :: putFE f e r
section
variable {K : PySem.W.Frag} {S : Sd}
theorem evFs_put {f : Str} {v : V} {e : E} (h : EvE K S v e) : ∀ {ws : List (Str × V)} {fs : List (Str × E)}, EvFs K S ws fs → EvFs K S (putF f v ws) (putFE f e fs)
  | _, _, .nil => .cons ⟨rfl, h⟩ .nil
  | (g, x) :: ws, (g', y) :: fs, .cons hp t => by
    have hg : g = g' := hp.1
    subst hg
    unfold putF putFE
    by_cases c : g = f
    · rw [if_pos c, if_pos c]
      exact .cons ⟨rfl, h⟩ t
    · rw [if_neg c, if_neg c]
      exact .cons hp (evFs_put h t)
theorem evFs_look {f : Str} {e : E} : ∀ {ws : List (Str × V)} {fs : List (Str × E)}, EvFs K S ws fs → fs.lookup f = some e → ∃ v, ws.lookup f = some v ∧ EvE K S v e
  | _, _, .nil, h => nomatch h
  | (g, x) :: ws, (g', y) :: fs, .cons hp t, h => by
    have hg : g = g' := hp.1
    subst hg
    rw [List.lookup_cons] at h ⊢
    cases c : (f == g) with
    | true =>
      rw [c] at h
      cases h
      exact ⟨x, rfl, hp.2⟩
    | false =>
      rw [c] at h
      exact evFs_look t h
theorem evFs_none {f : Str} : ∀ {ws : List (Str × V)} {fs : List (Str × E)}, EvFs K S ws fs → fs.lookup f = none → ws.lookup f = none
  | _, _, .nil, _ => rfl
  | (g, x) :: ws, (g', y) :: fs, .cons hp t, h => by
    have hg : g = g' := hp.1
    subst hg
    rw [List.lookup_cons] at h ⊢
    cases c : (f == g) with
    | true => rw [c] at h; cases h
    | false =>
      rw [c] at h
      exact evFs_none t h
theorem evFs_len : ∀ {ws : List (Str × V)} {fs : List (Str × E)}, EvFs K S ws fs → ws.length = fs.length
  | _, _, .nil => rfl
  | _, _, .cons _ t => by rw [List.length_cons, List.length_cons, evFs_len t]
end
/-- the instance that a thing is -/
def insX (m : Mm) (C : Addr) : E → Option (Nat × List (Str × E))
  | .loc k => match m[k]? with
    | some (.ins C' fs) => if C' = C then some (k, fs) else none
    | _ => none
  | _ => none
theorem insX_l {m : Mm} {C : Addr} {k : Nat} : insX m C (.loc k) = match m[k]? with
    | some (.ins C' fs) => if C' = C then some (k, fs) else none
    | _ => none := rfl
theorem insX_some {m : Mm} {C : Addr} {a : E} {k : Nat} {fs : List (Str × E)} (h : insX m C a = some (k, fs)) : a = .loc k ∧ m[k]? = some (.ins C fs) := by
  cases a with
  | dat _ => cases h
  | scr _ => cases h
  | loc j =>
    rw [insX_l] at h
    split at h
    · rename_i C' fs' hm
      by_cases c : C' = C
      · rw [if_pos c] at h
        cases h
        rw [← c]
        exact ⟨rfl, hm⟩
      · rw [if_neg c] at h
        cases h
    · cases h
theorem ins_at {K : PySem.W.Frag} {W : Wd} {S : Sd} {m : Mm} {H : Hp} {v : V} {a : E} {C : Addr} {k : Nat} {fs : List (Str × E)} (r : Rep K W S m H) (ev : EvE K S v a) (h : insX m C a = some (k, fs)) :
    ∃ p dx ws, v = .ref p ∧ S.A[k]? = some p ∧ m[k]? = some (.ins C fs) ∧ H p = some (.ins C dx ws) ∧ S.F dx = some (.own p) ∧ EvFs K S ws fs := by
  obtain ⟨rfl, hm⟩ := insX_some h
  obtain ⟨p, hp, rfl⟩ := ev
  obtain ⟨dx, ws, hH, hF, hw⟩ := r.ok k p _ hp hm
  exact ⟨p, dx, ws, rfl, hp, hm, hH, hF, hw⟩
/-! ### e.f -/
def dFld (C : Addr) (f : Str) (te : DTE) : DTE := fun g m Q => te g m fun a m1 => ∃ k fs, insX m1 C a = some (k, fs) ∧ ∃ e, fs.lookup f = some e ∧ Q e m1
section
variable {X : Cx} {e o value : Expr} {f : Str} {te to tv : DTE} {pos pos' : Pos} {C : Addr}
theorem d_fld (c : Cls X.K C) (n : NoAttr X.K C f) (he : DE X e te) (hb : attributeBase e f X.env (eval e X.env) = eval e X.env := by rfl) : DE X (.Attribute e f pos) (dFld C f te) := by
  obtain ⟨_, p, s⟩ := he.ex
  refine ⟨_, pe_fld p hb, fun W S g m σ H Q R r0 sl hq k => ?_⟩
  refine s W S g m σ H _ _ r0 sl hq fun v H1 S1 a m1 r1 l1 ev q1 => ?_
  obtain ⟨j, fs, hi, e', hl, q⟩ := q1
  obtain ⟨p, dx, ws, rfl, hp, hm, hH, hF, hw⟩ := ins_at r1 ev hi
  obtain ⟨u, hu, eu⟩ := evFs_look hw hl
  exact ⟨p, C, dx, ws, u, rfl, hH, c, n, hu, k u H1 S1 e' m1 r1 l1 eu q⟩
/-! ### e.f = value -/
def dFldS (C : Addr) (f : Str) (to tv : DTE) : DTS := fun D g m => tv g m fun b m1 => to g m1 fun a m2 => ∃ k fs, insX m2 C a = some (k, fs) ∧ fs.length < 1000 ∧ D.nx g (m2.set k (.ins C (putFE f b fs)))
theorem ds_fld (c : Cls X.K C) (n : NoAttr X.K C f) (ho : DE X o to) (hv : DE X value tv) (hs : swapsWith value (some (.Attribute o f pos')) pos.line X.env = pure false := by rfl) : DS X (.Assign [.Attribute o f pos'] value pos) (dFldS C f to tv) := by
  obtain ⟨_, p1, s1⟩ := ho.ex
  obtain ⟨_, p2, s2⟩ := hv.ex
  refine ⟨_, ps_fld p1 p2 hs, fun W S g m σ H D R r0 sl hq k => ?_⟩
  refine s2 W S g m σ H _ _ r0 sl hq fun y H1 S1 b m1 r1 l1 eb q1 => ?_
  refine s1 W S1 g m1 σ H1 _ _ r1 (sl.mono l1) q1 fun v H2 S2 a m2 r2 l2 ev q2 => ?_
  obtain ⟨j, fs, hi, hl, q⟩ := q2
  obtain ⟨p, dx, ws, rfl, hp, hm, hH, hF, hw⟩ := ins_at r2 ev hi
  refine ⟨p, C, dx, ws, rfl, hH, c, n, by rw [evFs_len hw]; exact hl, ?_⟩
  exact k.nx σ _ S2 g _ (r2.wr (d := .ins C (putFE f b fs)) hp hm (fun z => nomatch z) ⟨dx, _, upd_same, hF, evFs_put (EvE.mono l2 eb) hw⟩) (l1.trans l2) ((sl.mono l1).mono l2) q
end
/-! ### methods -/
section
variable {X : Cx} {CX : CXT} {k : Nat} {f C : Addr} {fd : FuncData} {ps : List Str} {sp : Sp} {dvs : List V} {ds : List Value} {Xe : XK} {x mn : Str} {p pos apos : Pos} {e o : Expr} {es : List Expr} {ta : TE} {t : TA}
theorem pe_methG {pl : Sem Bool} (he : PE X o ta) (c : Cls X.K C) (hm : Meth X.K C mn f) (F : FnG X.prog X.w X.K X.mg X.base CX k f fd ps sp) (hG : X.A.guards = some []) (hr : Room k X.A) (hb : Binds X.K fd ps ds) (hd : Vals dvs ds) (hx : Passes CX X Xe) (ha : PA X (e :: es) t)
    (hst : starEach (e :: es) X.env = (false, eval e X.env) :: starEach es X.env := by rfl) (hpl : (backTo pos (starEach es X.env)).any (·.1) = false := by rfl)
    (ht : eval (.Call (.Attribute o mn apos) (e :: es) [] pos) X.env = (do
      let ov ← eval o X.env
      standAt apos.atName
      let (f, first) ← holding [ov] (getMethod ov mn pl)
      callWith pos f first (backTo pos (starEach (e :: es) X.env)) (backToKw pos (keywordEach [] X.env))) := by rfl) :
    PE X (.Call (.Attribute o mn apos) (e :: es) [] pos) (tMeth C mn sp dvs Xe ta t) := by
  refine ⟨fun pins s σ H Q I h => ?_⟩
  refine PySem.W.methodCall_KW (pl := pl) (thn (he.run pins s σ H _ I h) fun u s1 ⟨x, H1, I1, rx, a, dx, fs, ex, ea, l, q⟩ => ?_) ht
  subst ex
  obtain rfl : u = Value.ref a := rx
  refine getmeth_ok I1 ea c hm l ?_
  refine PySem.W.callWith_K (first := [.ref a]) (h₀ := X.base) I.ok.mod.kin hm.kp (thn (ha.run pos pins s1 σ H1 _ I1 q) fun us s2 ⟨vs, H2, I2, r, q2⟩ => ⟨I2.kIn, ?_⟩) hst hpl
  exact run_fnG (us := .ref a :: us) (vs := .ref a :: vs) F hG hr hb hd hx I2 (.cons rfl r) q2
theorem pe_methG0 {pl : Sem Bool} (he : PE X o ta) (c : Cls X.K C) (hm : Meth X.K C mn f) (F : FnG X.prog X.w X.K X.mg X.base CX k f fd ps sp) (hG : X.A.guards = some []) (hr : Room k X.A) (hb : Binds X.K fd ps ds) (hd : Vals dvs ds) (hx : Passes CX X Xe)
    (ht : eval (.Call (.Attribute o mn apos) [] [] pos) X.env = (do
      let ov ← eval o X.env
      standAt apos.atName
      let (f, first) ← holding [ov] (getMethod ov mn pl)
      callWith pos f first (backTo pos (starEach [] X.env)) (backToKw pos (keywordEach [] X.env))) := by rfl) :
    PE X (.Call (.Attribute o mn apos) [] [] pos) (tMeth C mn sp dvs Xe ta tNil) := by
  refine ⟨fun pins s σ H Q I h => ?_⟩
  refine PySem.W.methodCall_KW (pl := pl) (thn (he.run pins s σ H _ I h) fun u s1 ⟨x, H1, I1, rx, a, dx, fs, ex, ea, l, q⟩ => ?_) ht
  subst ex
  obtain rfl : u = Value.ref a := rx
  refine getmeth_ok I1 ea c hm l ?_
  exact PySem.W.callWith_K0 (first := [.ref a]) I1.kIn hm.kp (run_fnG (us := [.ref a]) (vs := [.ref a]) F hG hr hb hd hx I1 (.cons rfl .nil) q)
theorem run_makeG {pins : List (Addr × Obj)} {σ : L2.St} {H : Hp} {s : Shared} {Q : VK} {us : List Value} {vs : List V} (M : Mk X.K C f) (F : FnG X.prog X.w X.K X.mg X.base CX k f fd ps sp) (hG : X.A.guards = some []) (hr : Room (k + 1) X.A) (hb : Binds X.K fd ps ds) (hd : Vals dvs ds)
    (hx : Passes CX X Xe) (I : Inv X pins σ H s) (r : Vals vs us)
    (h : ∀ x dx, H x = none → H dx = none → dx ≠ x → sp (.ref x :: (vs ++ dvs)) (upd (upd H dx (.own x)) x (.ins C dx [])) (fun v H2 => v = .non ∧ Q (.ref x) H2) Xe) :
    wpAny (model X.prog X.w) X.A (call (.ref C) us) (EP X pins σ Q) X.xe s := by
  have hq := h (s.heap.objs.size + 1) s.heap.objs.size (I.hok.fresh (Nat.le_succ _)) (I.hok.fresh (Nat.le_refl _)) (Nat.ne_of_lt (Nat.lt_succ_self _))
  have I2 := Inv.made (C := C) I
  have r2 : Vals (V.ref (s.heap.objs.size + 1) :: (vs ++ dvs)) (Value.ref (s.heap.objs.size + 1) :: (us ++ ds)) := .cons rfl (r.append hd)
  have hl : (Value.ref (s.heap.objs.size + 1) :: us ++ ds).length = ps.length := by
    have e := r2.length
    rw [F.len _ _ _ _ hq] at e
    exact e.symm
  refine wpAny_call (make_map (f := f) I.kIn M.makes M.init (beq_iff_eq.mp M.fn) (codeAny_mono (F.run _ X.stack _ _ ⟨Value.ref (s.heap.objs.size + 1) :: us, []⟩ (Value.ref (s.heap.objs.size + 1) :: (us ++ ds)) _ _ Xe hG (hr.make C us [])
    (I2.env0.make C us []) (hb _ (Value.ref (s.heap.objs.size + 1) :: us) I2.kIn hl) r2 hq) fun r s' hq' => ?_))
  match r, hq' with
  | .error e, hq' => exact hx pins σ _ _ e s' I2 hq'
  | .ok (.ret u), hq' =>
    obtain ⟨v, H', I3, rv, ev, q3⟩ := I2.after hq'
    subst ev
    exact ⟨rv, ⟨V.ref (s.heap.objs.size + 1), H', I3, rfl, q3⟩⟩
theorem pe_makeG (M : Mk X.K C f) (F : FnG X.prog X.w X.K X.mg X.base CX k f fd ps sp) (hG : X.A.guards = some []) (hr : Room (k + 1) X.A) (hg : Gl X x) (hm : X.mg x = some (.ref C)) (hb : Binds X.K fd ps ds) (hd : Vals dvs ds) (hx : Passes CX X Xe)
    (ha : PA X (e :: es) t) (hdb : (x == ("__debug__" : Str)) = false := by decide) (he : starEach (e :: es) X.env = (false, eval e X.env) :: starEach es X.env := by rfl) (hpl : (backTo pos (starEach es X.env)).any (·.1) = false := by rfl) :
    PE X (.Call (.Name x p) (e :: es) [] pos) (tMake C sp dvs Xe t) := by
  refine ⟨fun pins s σ H Q I h => ?_⟩
  refine wpAny_Call_Name_kw (ld_glob I hg hm ?_ hdb)
  refine PySem.W.callWith_K (h₀ := X.base) I.ok.mod.kin M.kp (thn (ha.run pos pins s σ H _ I h) fun us s1 ⟨vs, H1, I1, r, q⟩ => ⟨I1.kIn, ?_⟩) he hpl
  exact run_makeG M F hG hr hb hd hx I1 r q
end
/-- a method, known -/
structure CalM (P : Program) (w : World) (K : PySem.W.Frag) (mg : Str → Option Value) (base : Heap) (k : Nat) (C : Addr) (mn : Str) (ps : List Str) (ds : DSp) : Prop where
  ex : ∃ f fd, FnD P w K mg base k f fd ps ds ∧ Meth K C mn f ∧ Binds K fd ps []
structure CalI (P : Program) (w : World) (K : PySem.W.Frag) (mg : Str → Option Value) (base : Heap) (k : Nat) (C : Addr) (x : Str) (ps : List Str) (ds : DSp) : Prop where
  ex : ∃ f fd, FnD P w K mg base k f fd ps ds ∧ Mk K C f ∧ Binds K fd ps [] ∧ mg x = some (.ref C)
def dMeth (C : Addr) (mn : Str) (k : Nat) (ds : DSp) (to : DTE) (ta : DTA) : DTE := fun g m Q => to g m fun a m0 => ∃ i fs, insX m0 C a = some (i, fs) ∧ fs.lookup mn = none ∧ ta g m0 fun es m1 => (a :: es).length = k ∧ (m1.take m1.length).all (inO m1.length) = true ∧ (a :: es).all (inE m1.length) = true ∧
    ds (a :: es) (m1.take m1.length) fun e m2 => onD e fun d => (m2.take m1.length).all (inO m1.length) = true ∧ Q (.dat d) (m2.take m1.length ++ m1.drop m1.length)
section
variable {X : Cx} {k j : Nat} {C : Addr} {x mn : Str} {ps : List Str} {ds : DSp} {p pos apos : Pos} {e o : Expr} {es : List Expr} {to : DTE} {t : DTA}
theorem d_meth {pl : Sem Bool} (c : Cls X.K C) (M : CalM X.prog X.w X.K X.mg X.base k C mn ps ds) (hG : X.A.guards = some []) (hr : Room j X.A) (hkj : k ≤ j) (ho : DE X o to) (ha : DA X (e :: es) t)
    (hst : starEach (e :: es) X.env = (false, eval e X.env) :: starEach es X.env := by rfl) (hpl : (backTo pos (starEach es X.env)).any (·.1) = false := by rfl)
    (ht : eval (.Call (.Attribute o mn apos) (e :: es) [] pos) X.env = (do
      let ov ← eval o X.env
      standAt apos.atName
      let (f, first) ← holding [ov] (getMethod ov mn pl)
      callWith pos f first (backTo pos (starEach (e :: es) X.env)) (backToKw pos (keywordEach [] X.env))) := by rfl) :
    DE X (.Call (.Attribute o mn apos) (e :: es) [] pos) (dMeth C mn ps.length ds to t) := by
  obtain ⟨f, fd, F, hm, hb⟩ := M.ex
  obtain ⟨_, po, so⟩ := ho.ex
  obtain ⟨_, pa, sa⟩ := ha.ex
  refine ⟨_, pe_methG po c hm F hG (hr.mono hkj) hb .nil pass0 pa hst hpl ht, fun W S g m σ H Q R r0 sl hq kk => ?_⟩
  refine so W S g m σ H _ _ r0 sl hq fun v H0 S0 a m0 r0' l0 ev q0 => ?_
  obtain ⟨i, fs, hi, hl, q1⟩ := q0
  obtain ⟨p, dx, ws, rfl, hp, hm', hH, hF, hw⟩ := ins_at r0' ev hi
  refine ⟨p, dx, ws, rfl, hH, evFs_none hw hl, ?_⟩
  refine sa W S0 g m0 σ H0 _ _ r0' (sl.mono l0) q1 fun vs H1 S1 es m1 r1 l1 er q1 => ?_
  obtain ⟨hk, hc, he, hd⟩ := q1
  show toSp X.K ps.length ds (.ref p :: (vs ++ [])) H1 R _
  rw [List.append_nil]
  exact toSp_of r1 (.cons (EvE.mono l1 ev) er) hk (Nat.le_refl _) hc he hd fun v H2 S2 e m2 r2 l2 => kk v H2 S2 e m2 r2 ((l0.trans l1).trans l2)
theorem d_meth0 {pl : Sem Bool} (c : Cls X.K C) (M : CalM X.prog X.w X.K X.mg X.base k C mn ps ds) (hG : X.A.guards = some []) (hr : Room j X.A) (hkj : k ≤ j) (ho : DE X o to)
    (ht : eval (.Call (.Attribute o mn apos) [] [] pos) X.env = (do
      let ov ← eval o X.env
      standAt apos.atName
      let (f, first) ← holding [ov] (getMethod ov mn pl)
      callWith pos f first (backTo pos (starEach [] X.env)) (backToKw pos (keywordEach [] X.env))) := by rfl) :
    DE X (.Call (.Attribute o mn apos) [] [] pos) (dMeth C mn ps.length ds to dNil) := by
  obtain ⟨f, fd, F, hm, hb⟩ := M.ex
  obtain ⟨_, po, so⟩ := ho.ex
  refine ⟨_, pe_methG0 po c hm F hG (hr.mono hkj) hb .nil pass0 ht, fun W S g m σ H Q R r0 sl hq kk => ?_⟩
  refine so W S g m σ H _ _ r0 sl hq fun v H0 S0 a m0 r0' l0 ev q0 => ?_
  obtain ⟨i, fs, hi, hl, q1⟩ := q0
  obtain ⟨p, dx, ws, rfl, hp, hm', hH, hF, hw⟩ := ins_at r0' ev hi
  refine ⟨p, dx, ws, rfl, hH, evFs_none hw hl, ?_⟩
  obtain ⟨hk, hc, he, hd⟩ := q1
  exact toSp_of (Xe := E0) (es := [a]) (vs := [.ref p]) r0' (.cons ev .nil) hk (Nat.le_refl _) hc he hd fun v H2 S2 e m2 r2 l2 => kk v H2 S2 e m2 r2 (l0.trans l2)
/-! ### C(e, ..) -/
def dMake (C : Addr) (k : Nat) (ds : DSp) (ta : DTA) : DTE := fun g m Q => ta g m fun es m1 => es.length + 1 = k ∧ ds (.loc m1.length :: es) (m1 ++ [.ins C []]) fun e m2 => e = .dat .none ∧ Q (.loc m1.length) m2
theorem d_make (M : CalI X.prog X.w X.K X.mg X.base k C x ps ds) (hG : X.A.guards = some []) (hr : Room j X.A) (hkj : k + 1 ≤ j) (ha : DA X (e :: es) t) (hg : Gl X x := by rfl) (hdb : (x == ("__debug__" : Str)) = false := by decide)
    (he : starEach (e :: es) X.env = (false, eval e X.env) :: starEach es X.env := by rfl) (hpl : (backTo pos (starEach es X.env)).any (·.1) = false := by rfl) : DE X (.Call (.Name x p) (e :: es) [] pos) (dMake C ps.length ds t) := by
  obtain ⟨f, fd, F, hM, hb, hm⟩ := M.ex
  obtain ⟨_, pa, sa⟩ := ha.ex
  refine ⟨_, pe_makeG hM F hG (hr.mono hkj) hg hm hb .nil pass0 pa hdb he hpl, fun W S g m σ H Q R r0 sl hq kk => ?_⟩
  refine sa W S g m σ H _ _ r0 sl hq fun vs H1 S1 es m1 r1 l1 er q1 => ?_
  obtain ⟨hk, hd⟩ := q1
  intro y dx hy hdx hne
  rw [List.append_nil]
  obtain ⟨r2, l2⟩ := r1.frz (o := .own y) hdx
  have hy2 : upd H1 dx (.own y) y = none := by rw [upd_ne (Ne.symm hne)]; exact hy
  obtain ⟨r3, l3, e3⟩ := r2.own (o := .ins C dx []) (d := .ins C []) hy2 fun S' H' l' e' => ⟨dx, [], e', l'.f _ _ upd_same, .nil⟩
  have l13 := l2.trans l3
  refine ⟨by rw [List.length_cons, EvEs.length er]; exact hk, _, .loc m1.length :: es, _, _, r3.enter, .cons ⟨y, e3, rfl⟩ (EvEs.mono l13 er), hd, fun v H' S' e' m' r' l' ev q => ?_⟩
  obtain ⟨rfl, q2⟩ := q
  refine ⟨by cases ev; rfl, ?_⟩
  exact kk (.ref y) H' S' (.loc m1.length) m' (r3.back (Sub.refl _) r') ((l1.trans l13).trans l') ⟨y, pre_get l'.a e3, rfl⟩ q2
end
/-! ### the functions -/
section
variable {Xp : XP} {x x1 x2 : XE} {xa : XA} {f : XF}
def pFld (C : Addr) (fn : Str) (a : E) (m : Mm) : Rs E := xo (insX m C a) fun p => xo (p.2.lookup fn) fun e => .ok e m
def xFld (C : Addr) (fn : Str) (x : XE) (g : Gm) (m : Mm) : Rs E := rb (x g m) (pFld C fn)
theorem i_Fld {C : Addr} {fn : Str} : IE (ofE Xp (xFld C fn x)) (dFld C fn (ofE Xp x)) := fun g m Q q => post_rb q fun a m1 q => let ⟨p, h, q⟩ := post_xo q; let ⟨e, h2, q⟩ := post_xo q; ⟨p.1, p.2, h, e, h2, q⟩
def pFldS (C : Addr) (fn : Str) (g : Gm) (b a : E) (m : Mm) : Rs Fl := xo (insX m C a) fun p => xg (decide (p.2.length < 1000)) (.ok (.nx g) (m.set p.1 (.ins C (putFE fn b p.2))))
def kFldS (C : Addr) (fn : Str) (x : XE) (g : Gm) (b : E) (m : Mm) : Rs Fl := rb (x g m) (pFldS C fn g b)
def xFldS (C : Addr) (fn : Str) (o v : XE) (g : Gm) (m : Mm) : Rs Fl := rb (v g m) (kFldS C fn o g)
theorem i_FldS {C : Addr} {fn : Str} : IS (ofS Xp (xFldS C fn x1 x2)) (dFldS C fn (ofE Xp x1) (ofE Xp x2)) := fun D g m q => post_rb (x := x2 g m) q fun b m1 q => post_rb (x := x1 g m1) q fun a m2 q => let ⟨p, h, q⟩ := post_xo q; let ⟨h2, q⟩ := post_xg q; ⟨p.1, p.2, h, of_decide_eq_true h2, q⟩
def kMeth1 (k : Nat) (f : XF) (a : E) (es : List E) (m : Mm) : Rs E := kCallN k m.length f (a :: es) m
def kMeth (C : Addr) (mn : Str) (k : Nat) (f : XF) (xa : XA) (g : Gm) (a : E) (m : Mm) : Rs E := xo (insX m C a) fun p => xg (p.2.lookup mn).isNone (rb (xa g m) (kMeth1 k f a))
def xMeth (C : Addr) (mn : Str) (k : Nat) (f : XF) (o : XE) (xa : XA) (g : Gm) (m : Mm) : Rs E := rb (o g m) (kMeth C mn k f xa g)
theorem i_Meth {C : Addr} {mn : Str} {k : Nat} : IE (ofE Xp (xMeth C mn k f x xa)) (dMeth C mn k (ofF Xp f) (ofE Xp x) (ofA Xp xa)) := fun g m Q q => post_rb q fun a m1 q => let ⟨p, h, q⟩ := post_xo q; let ⟨h2, q⟩ := post_xg q; ⟨p.1, p.2, h, Option.isNone_iff_eq_none.mp h2, post_rb q fun es m2 q => let ⟨a, _, b, c, d⟩ := kCallN_of q; ⟨a, b, c, d⟩⟩
theorem i_Meth0 {C : Addr} {mn : Str} {k : Nat} : IE (ofE Xp (xMeth C mn k f x xNil)) (dMeth C mn k (ofF Xp f) (ofE Xp x) dNil) := fun g m Q q => post_rb q fun a m1 q => by
  obtain ⟨p, h, q⟩ := post_xo q
  obtain ⟨h2, q⟩ := post_xg q
  have q' : (kCallN k m1.length f [a] m1).post Q Xp := q
  obtain ⟨e1, _, e2, e3, e4⟩ := kCallN_of q'
  exact ⟨p.1, p.2, h, Option.isNone_iff_eq_none.mp h2, e1, e2, e3, e4⟩
def pMake (j : Nat) (e : E) (m : Mm) : Rs E := gD e fun d => xg (isNon d) (.ok (.loc j) m)
def kMake (C : Addr) (k : Nat) (f : XF) (es : List E) (m : Mm) : Rs E := xg (decide (es.length + 1 = k)) (rb (f (.loc m.length :: es) (m ++ [.ins C []])) (pMake m.length))
def xMake (C : Addr) (k : Nat) (f : XF) (xa : XA) (g : Gm) (m : Mm) : Rs E := rb (xa g m) (kMake C k f)
theorem i_Make {C : Addr} {k : Nat} : IE (ofE Xp (xMake C k f xa)) (dMake C k (ofF Xp f) (ofA Xp xa)) := fun g m Q q => post_rb q fun es m1 q => by
  obtain ⟨h, q⟩ := post_xg q
  show es.length + 1 = k ∧ ofF Xp f (.loc m1.length :: es) (m1 ++ [.ins C []]) fun e m2 => e = .dat .none ∧ Q (.loc m1.length) m2
  refine ⟨of_decide_eq_true h, ?_⟩
  exact post_rb (x := f (.loc m1.length :: es) (m1 ++ [.ins C []])) q fun e m2 q => by
    show e = .dat .none ∧ Q (.loc m1.length) m2
    cases e with
    | loc _ => exact q.elim
    | scr _ => exact q.elim
    | dat d =>
      have q' : (xg (isNon d) (.ok (.loc m1.length) m2 : Rs E)).post Q Xp := q
      obtain ⟨hn, q2⟩ := post_xg q'
      cases d with
      | none => exact ⟨rfl, q2⟩
      | _ => cases hn
end
end DL
/-! DYf: y in d, d.update(..), dict displays of the ledger, lists frozen by their slot, three targets, recursion in pairs. -/
namespace DL
open PySem PySem.Spec PyProof.Rows L2

/-! ### y in d -/
section
variable {X : Cx} {o i : Expr} {to te : DTE} {pos : Pos}
def hasE (m : Mm) (a : E) (k : Key) (Q : Bool → Prop) : Prop := ∃ r, dicX m a k = some r ∧ Q r.isSome
def dInD (neg : Bool) (te to : DTE) : DTE := fun g m Q => te g m fun e m1 => to g m1 fun a m2 => onD e fun y => onKey y fun ky => hasE m2 a ky fun b => Q (.dat (.bool (ng neg b))) m2
theorem dget_has {K : PySem.W.Frag} {W : Wd} {S : Sd} {m : Mm} {H : Hp} {x y : V} {a : E} {ky : Key} {r : Option E} (R : Rep K W S m H) (ea : EvE K S x a) (ey : y = kV ky) (h : dicX m a ky = some r) : ∃ p ov, x = .ref p ∧ DGet H p y ov ∧ ov.isSome = r.isSome := by
  subst ey
  unfold dicX at h
  split at h
  · rename_i kvs
    cases h
    cases ea with
    | dic hF hA =>
      have hH := R.sub _ _ hF
      cases hl : lookP kvs ky with
      | none => exact ⟨_, none, rfl, by rw [← lookP_none hA hl]; exact DGet.k hH, rfl⟩
      | some d =>
        obtain ⟨v, hv, rv⟩ := lookP_dv hA hl
        exact ⟨_, some v, rfl, dGet_of hH hv, rfl⟩
  · rename_i j
    split at h
    · rename_i kvs hm
      cases h
      obtain ⟨p, hp, rfl⟩ := ea
      obtain ⟨ws, hH, er⟩ := R.ok j p _ hp hm
      cases hl : lookD kvs ky with
      | none => exact ⟨p, none, rfl, by rw [← look_none er hl]; exact DGet.k hH, rfl⟩
      | some e1 =>
        obtain ⟨v, hv, rv⟩ := look_ev er hl
        exact ⟨p, some v, rfl, dGet_of hH hv, rfl⟩
    · cases h
  · cases h
theorem snd_inD {K : PySem.W.Frag} {ty td : TE} (s1 : Snd K ty te) (s2 : Snd K td to) : Snd K (tDIn ty td) (dInD false te to) := by
  intro W S g m σ H Q R r0 sl hq k
  refine s1 W S g m σ H _ _ r0 sl hq fun y H1 S1 e m1 r1 l1 ee q1 => ?_
  refine s2 W S1 g m1 σ H1 _ _ r1 (sl.mono l1) q1 fun x H2 S2 a m2 r2 l2 ea q2 => ?_
  obtain ⟨y', rfl, q4⟩ := onD_of q2
  obtain ⟨ky, rfl, q5⟩ := onKey_of q4
  obtain ⟨r, hr, q6⟩ := q5
  obtain ⟨p, ov, rfl, hg, eo⟩ := dget_has r2 ea (dv_key ee) hr
  refine ⟨p, ov, rfl, hg, ?_⟩
  rw [eo]
  exact k (.bl _) H2 S2 (.dat (.bool _)) m2 r2 (l1.trans l2) (Dv.bl _) q6
theorem snd_niD {K : PySem.W.Frag} {ty td : TE} (s1 : Snd K ty te) (s2 : Snd K td to) : Snd K (tDNotIn ty td) (dInD true te to) := by
  intro W S g m σ H Q R r0 sl hq k
  refine s1 W S g m σ H _ _ r0 sl hq fun y H1 S1 e m1 r1 l1 ee q1 => ?_
  refine s2 W S1 g m1 σ H1 _ _ r1 (sl.mono l1) q1 fun x H2 S2 a m2 r2 l2 ea q2 => ?_
  obtain ⟨y', rfl, q4⟩ := onD_of q2
  obtain ⟨ky, rfl, q5⟩ := onKey_of q4
  obtain ⟨r, hr, q6⟩ := q5
  obtain ⟨p, ov, rfl, hg, eo⟩ := dget_has r2 ea (dv_key ee) hr
  refine ⟨p, ov, rfl, hg, ?_⟩
  rw [eo]
  exact k (.bl _) H2 S2 (.dat (.bool _)) m2 r2 (l1.trans l2) (Dv.bl _) q6
theorem d_inD (hu : X.A.units + 1 < cLine) (hi : DE X i te) (ho : DE X o to) (h1 : behindInMarks .In o = false := by rfl) : DE X (.Compare i [.In] [o] pos) (dInD false te to) := by
  obtain ⟨_, p1, s1⟩ := hi.ex
  obtain ⟨_, p2, s2⟩ := ho.ex
  exact ⟨_, pe_cmp (pc_din hu p1 p2) h1, snd_inD s1 s2⟩
theorem d_niD (hu : X.A.units + 1 < cLine) (hi : DE X i te) (ho : DE X o to) (h1 : behindInMarks .NotIn o = false := by rfl) : DE X (.Compare i [.NotIn] [o] pos) (dInD true te to) := by
  obtain ⟨_, p1, s1⟩ := hi.ex
  obtain ⟨_, p2, s2⟩ := ho.ex
  exact ⟨_, pe_cmp (pc_dnotin hu p1 p2) h1, snd_niD s1 s2⟩
theorem dt_inD (hu : X.A.units + 1 < cLine) (hi : DE X i te) (ho : DE X o to) (h1 : behindInMarks .In o = false := by rfl) : DT X (.Compare i [.In] [o] pos) (dB (dInD false te to)) := by
  obtain ⟨_, p1, s1⟩ := hi.ex
  obtain ⟨_, p2, s2⟩ := ho.ex
  exact ⟨_, pt_cmp (pc_din hu p1 p2) h1, snd_B (snd_inD s1 s2)⟩
theorem dt_niD (hu : X.A.units + 1 < cLine) (hi : DE X i te) (ho : DE X o to) (h1 : behindInMarks .NotIn o = false := by rfl) : DT X (.Compare i [.NotIn] [o] pos) (dB (dInD true te to)) := by
  obtain ⟨_, p1, s1⟩ := hi.ex
  obtain ⟨_, p2, s2⟩ := ho.ex
  exact ⟨_, pt_cmp (pc_dnotin hu p1 p2) h1, snd_B (snd_niD s1 s2)⟩
end
section
variable {Xp : XP} {x1 x2 : XE}
def pInD (neg : Bool) (e a : E) (m : Mm) : Rs E := gD e fun y => xo (keyX y) fun ky => xo (dicX m a ky) fun r => .ok (.dat (.bool (ng neg r.isSome))) m
def xInD (neg : Bool) (x o : XE) (g : Gm) (m : Mm) : Rs E := rb (x g m) (kP2 (pInD neg) o g)
theorem i_InD {neg : Bool} : IE (ofE Xp (xInD neg x1 x2)) (dInD neg (ofE Xp x1) (ofE Xp x2)) := fun g m Q q => post_rb q fun a m1 q => post_rb q fun b m2 q => gD_of q fun y q => let ⟨k, hk, q⟩ := post_xo q; let ⟨r, hr, q⟩ := post_xo q; keyX_of hk ⟨r, hr, q⟩
theorem i_B_of {d : DTE} (h : IE (ofE Xp x1) d) : IT (ofT Xp (xB x1)) (dB d) := fun g m Q q => h g m _ (post_rb (x := x1 g m) q fun a m1 q => gD_of q fun d q => gB_of q fun b q => q)
end

/-! ### d.update(e) -/
def rDUpd : V → List V → Hp → VK → Prop := fun x vs H Q => ∃ (a b : Addr) (kvs more : List (Key × V)), x = .ref a ∧ vs = [.ref b] ∧ a ≠ b ∧ H a = some (.dK kvs) ∧ H b = some (.dK more) ∧ kvs.length + more.length ≤ sizeLine ∧ (mergeK kvs more).length ≤ sizeLine ∧ Q .non (upd H a (.dK (mergeK kvs more)))
theorem d_upd {X : Cx} {pins : List (Addr × Obj)} {σ : L2.St} {H : Hp} {s : Shared} {a b : Addr} {kvs more : List (Key × V)} {A : Around} {E : Value → Shared → Prop} {Q : Value → Shared → Prop} (I : Inv X pins σ H s) (hne : a ≠ b) (e : H a = some (.dK kvs)) (e2 : H b = some (.dK more)) (hz : kvs.length + more.length ≤ sizeLine) (hz2 : (mergeK kvs more).length ≤ sizeLine)
    (h : ∀ s', Inv X pins σ (upd H a (.dK (mergeK kvs more))) s' → Q .none s') : wpAny (model X.prog X.w) A (call (.builtin "dict.update") [.ref a, .ref b]) Q E s := by
  obtain ⟨z1, hd1, vs, rel, dd⟩ := dk_of I.hok e
  obtain ⟨z2, hd2, rs, rel2, dd2⟩ := dk_of I.hok e2
  refine call_meetsIn PySem.F.slot_dict_update dd.typeIs PySem.F.entry_dict_update (PySem.F.args_dict_update_2 _ _) (meets_dict_update (mixKind X.prog X.w) a b hne hd2) ⟨vs, rs, dd, dd2, by rw [← rel.length, ← rel2.length]; exact hz, fun h' dd' _ hs => h _ ?_⟩
  have he : ∃ q, h'.get? a = some q := let ⟨q, _, _, hq, _⟩ := dd'; ⟨q, hq⟩
  exact d_write (t' := s.toks) I (by rw [e]; exact True.intro) hs he (dk_new hz2 hd1 (KV.merge rel2 rel) dd')
theorem mtd_upd {X : Cx} : MtR X "dict.update" rDUpd := by
  intro pins s σ H x vs v us Q I rx rv h
  obtain ⟨a, b, kvs, more, ex, ev, hne, e, e2, hz, hz2, q⟩ := h
  subst ex
  subst ev
  obtain rfl : v = Value.ref a := rx
  obtain ⟨u, rfl, r1⟩ := vals1 rv
  obtain rfl : u = Value.ref b := r1
  exact d_upd I hne e e2 hz hz2 fun s' I' => ⟨.non, _, I', rfl, q⟩
def kvX : List (PyData × PyData) → Option (List (Key × PyData))
  | [] => some []
  | (k, v) :: r => (keyX k).bind fun x => (kvX r).map ((x, v) :: ·)
theorem kvX_dv {K : PySem.W.Frag} {F : Hp} : ∀ {ws : List (Key × V)} {ps : List (PyData × PyData)} {kvs : List (Key × PyData)}, DvKv K F ws ps → kvX ps = some kvs → DvK K F ws kvs
  | _, _, _, .nil, h => by
    cases h
    exact .nil
  | (k, v) :: ws, _, kvs, .cons (d := d) (ds := ds) hd t, h => by
    obtain ⟨x, hx, h⟩ := obind (show (keyX (keyD k)).bind (fun x => (kvX ds).map ((x, d) :: ·)) = some kvs from h)
    obtain ⟨kvs', h', e⟩ := omap h
    subst e
    rw [keyX_key] at hx
    cases hx
    exact .cons ⟨rfl, hd⟩ (kvX_dv t h')
/-- merged into a dict of the ledger -/
def updE (kvs : List (Key × E)) (more : List (Key × PyData)) : List (Key × E) := more.foldl (fun a p => putE a p.1 (.dat p.2)) kvs
theorem upd_ev {K : PySem.W.Frag} {S : Sd} : ∀ {us : List (Key × V)} {ls : List (Key × PyData)} {ws : List (Key × V)} {kvs : List (Key × E)}, EvKv K S ws kvs → DvK K S.F us ls → EvKv K S (mergeK ws us) (updE kvs ls)
  | _, _, _, _, h, .nil => h
  | (k1, v) :: _, (k2, d) :: _, ws, kvs, h, .cons r t => by
    have hk : k1 = k2 := r.1
    subst hk
    have z : EvKv K S (mergeK (putK ws k1 v) _) (updE (putE kvs k1 (.dat d)) _) := upd_ev (ev_put (k := k1) (e := .dat d) r.2 h) t
    exact z
theorem putE_len (kvs : List (Key × E)) (k : Key) (e : E) : (putE kvs k e).length ≤ kvs.length + 1 := by
  unfold putE
  split
  · rw [List.length_map]; omega
  · rw [List.length_append]; exact Nat.le_refl _
theorem updE_len : ∀ (ls : List (Key × PyData)) (kvs : List (Key × E)), (updE kvs ls).length ≤ kvs.length + ls.length
  | [], kvs => Nat.le_refl _
  | p :: ls, kvs => by
    have h1 := updE_len ls (putE kvs p.1 (.dat p.2))
    have h2 := putE_len kvs p.1 (.dat p.2)
    show (updE (putE kvs p.1 (.dat p.2)) ls).length ≤ kvs.length + (ls.length + 1)
    omega
def dictX1 : E → Option (List (Key × PyData))
  | .dat (.dict ps) => kvX ps
  | _ => none
def dUpd (to te : DTE) : DTE := fun g m Q => to g m fun a m1 => isLDX m1 a = true ∧ te g m1 fun b m2 => ∃ more, dictX1 b = some more ∧ onDic m2 a fun j kvs => kvs.length + more.length ≤ sizeLine ∧ Q (.dat .none) (m2.set j (.dic (updE kvs more)))
section
variable {X : Cx} {o e : Expr} {apos cpos : Pos} {to te : DTE}
theorem d_upd2 (ho : DE X o to) (he : DE X e te) (hbase : attributeBase o "update" X.env (eval o X.env) = eval o X.env := by rfl)
    (hfew : ((backTo cpos (starEach (e :: []) X.env)).all (fun x => !x.1) && (backToKw cpos (keywordEach [] X.env)).all (fun x => x.1.isSome)
      && decide ((e :: []).length + ([] : List Keyword).length + (if ([] : List Keyword).isEmpty then 0 else 1) < 30)) = true := by rfl)
    (hline : (apos.endLine == cpos.line) = true := by rfl) (hs : starEach (e :: []) X.env = (false, eval e X.env) :: starEach [] X.env := by rfl) (hplain : (backTo cpos (starEach [] X.env)).any (·.1) = false := by rfl) :
    DE X (.Call (.Attribute o "update" apos) [e] [] cpos) (dUpd to te) := by
  obtain ⟨_, p1, s1⟩ := ho.ex
  obtain ⟨_, p2, s2⟩ := he.ex
  refine ⟨_, pe_bm PySem.F.plainAttrs_dict PySem.F.slot_dict_update PySem.F.type_dict_update mtd_upd p1 (pa_cons p2 pa_nil hs) hbase hfew hline hs hplain, fun W S g m σ H Q R r0 sl hq k => ?_⟩
  refine s1 W S g m σ H _ _ r0 sl hq fun x H1 S1 a m1 r1 l1 ea q1 => ?_
  obtain ⟨hld, q1⟩ := q1
  obtain ⟨j0, p0, ws0, kvs0, ej0, hp0, rfl, hm0, hH0, er0, _⟩ := onDic_of (isLDX_of (P := fun _ _ => True) hld fun _ _ => trivial) r1 ea
  refine ⟨Or.inr (Or.inr (Or.inl ⟨rfl, Or.inl ⟨_, hH0⟩⟩)), ?_⟩
  refine s2 W S1 g m1 σ H1 _ _ r1 (sl.mono l1) q1 fun y H2 S2 b m2 r2 l2 eb q3 => ?_
  obtain ⟨more, hmo, q4⟩ := q3
  obtain ⟨j, p, ws, kvs, ej, hp, ep, hm, hH, er, hz, q5⟩ := onDic_of q4 r2 (EvE.mono l2 ea)
  cases ep
  unfold dictX1 at hmo
  split at hmo
  · rename_i ps
    cases eb with
    | @dic b' us _ hF hA =>
      have hd := kvX_dv hA hmo
      have hH2 := r2.sub _ _ hF
      have hoff : S2.F p0 = none := r2.off j p0 _ hp hm (fun z => nomatch z)
      have hne : p0 ≠ b' := fun z => by
        rw [z, hF] at hoff
        cases hoff
      have hul : us.length = more.length := Paired.length hd
      have hwl : ws.length = kvs.length := Paired.length er
      have hev := upd_ev er hd
      have hml : (mergeK ws us).length ≤ sizeLine := by
        have h1 : (mergeK ws us).length = (updE kvs more).length := Paired.length hev
        have h2 := updE_len more kvs
        omega
      refine ⟨p0, b', ws, us, rfl, rfl, hne, hH, hH2, by omega, hml, ?_⟩
      exact k .non _ S2 (.dat .none) _ (r2.wr (d := .dic (updE kvs more)) hp hm (fun z => nomatch z) ⟨_, upd_same, hev⟩) (l1.trans l2) Dv.non q5
  · cases hmo
end
section
variable {Xp : XP} {x1 x2 : XE}
def pUpd (a b : E) (m : Mm) : Rs E := xo (dictX1 b) fun more => xo (locD m a) fun p => xg (decide (p.2.length + more.length ≤ sizeLine)) (.ok (.dat .none) (m.set p.1 (.dic (updE p.2 more))))
def kUpd (x : XE) (g : Gm) (a : E) (m : Mm) : Rs E := xg (isLDX m a) (rb (x g m) (pUpd a))
def xUpd (o x : XE) (g : Gm) (m : Mm) : Rs E := rb (o g m) (kUpd x g)
theorem i_Upd : IE (ofE Xp (xUpd x1 x2)) (dUpd (ofE Xp x1) (ofE Xp x2)) := fun g m Q q => post_rb q fun a m1 q => let ⟨h, q⟩ := post_xg q; ⟨h, post_rb q fun b m2 q => let ⟨mo, hm, q⟩ := post_xo q; let ⟨p, hp, q⟩ := post_xo q; let ⟨hz, q⟩ := post_xg q; ⟨mo, hm, locD_of hp ⟨of_decide_eq_true hz, q⟩⟩⟩
end

/-! ### {k: v, ..}, of the ledger -/
def dispX (ps : List (PyData × PyData)) (ks : List Key) : OD := .dic ((ks.zip ps).map fun p => (p.1, .dat p.2.2))
def dDispM (t : DTPs) : DTE := fun g m Q => t g m fun ps m1 => ∃ kvs, kvX ps = some kvs ∧ (kvs.map (·.1)).Nodup ∧ ps.length ≤ 15 ∧ Q (.loc m1.length) (m1 ++ [dicE kvs])
theorem kvX_keys : ∀ {ps : List (PyData × PyData)} {kvs : List (Key × PyData)}, kvX ps = some kvs → ps.map (·.1) = (kvs.map (·.1)).map keyD
  | [], _, h => by
    cases h
    rfl
  | (k, v) :: r, kvs, h => by
    obtain ⟨x, hx, h⟩ := obind (show (keyX k).bind (fun x => (kvX r).map ((x, v) :: ·)) = some kvs from h)
    obtain ⟨kvs', h', e⟩ := omap h
    subst e
    rw [List.map_cons, List.map_cons, List.map_cons, kvX_keys h', keyX_eq hx]
section
variable {X : Cx} {pos : Pos}
theorem d_dispM {keys : List (Option Expr)} {values : List Expr} {t : DTPs} (h : DPs X pos keys values t) (hall : keys.all (·.isSome) = true := by rfl) (hl : keys.length = values.length := by rfl) (h0 : keys ≠ [] := by exact fun z => nomatch z) (h15 : keys.length ≤ 15 := by decide) :
    DE X (.Dict keys values pos) (dDispM t) := by
  obtain ⟨_, p, s⟩ := h.ex
  refine ⟨_, pe_disp p hall hl h0 h15, fun W S g m σ H Q R r0 sl hq k => ?_⟩
  intro D hD
  have n0 := r0.fresh0 hD
  have nA := r0.not_mem hD
  have nF := r0.freshF hD
  have r1 : Rep X.K W S m (upd H D (.dK [])) := r0.aside nA nF n0
  refine s _ S g m σ _ _ _ r1.enter sl hq fun vs H2 S2 ps m2 r2 l2 er q2 => ?_
  have hHD : H2 D = some (.dK []) := r2.kept D _ upd_same nA
  have nA2 : D ∉ S2.A := fun z => by
    rcases r2.mine D z with q | q
    · exact nA q
    · have q' : upd H D (.dK []) D = none := q
      rw [upd_same] at q'
      cases q'
  have nF2 : S2.F D = none := by
    cases e : S2.F D with
    | none => rfl
    | some u =>
      rcases r2.fnew D u e with q | q | q
      · have q' : S.F D = some u := q
        rw [nF] at q'
        cases q'
      · have q' : upd H D (.dK []) D = none := q
        rw [upd_same] at q'
        cases q'
      · exact absurd q nA
  obtain ⟨kl, ek, hnd, hz, q3⟩ := q2
  obtain ⟨kvs, ev, ek2, rk⟩ := pairs_kvs er (kvX_keys ek)
  have r3 : Rep X.K W S2 m2 H2 := r1.back (Sub.refl _) r2
  have em : mergeK [] kvs = kvs := by
    have := mergeK_nd kvs [] (by rw [List.nil_append, ek2]; exact hnd)
    rw [List.nil_append] at this
    exact this
  have hlen : kvs.length ≤ 15 := by
    have h1 : kvs.length = (kl.map (·.1)).length := by rw [← ek2, List.length_map]
    have h2 : ps.length = (kl.map (·.1)).length := by
      have := congrArg List.length (kvX_keys ek)
      rw [List.length_map, List.length_map] at this
      exact this
    omega
  refine ⟨hHD, kvs, ev, hlen, ?_⟩
  rw [em]
  have rk2 := dvk_ev (S := S2) (kvX_dv rk ek)
  obtain ⟨r4, l4⟩ := (r3.aside (o := .dK kvs) nA2 nF2 n0).enlist (d := dicE kl) nA2 nF2 n0 (by rw [upd_same]; exact fun z => nomatch z) ⟨kvs, upd_same, rk2⟩
  refine k (.ref D) _ _ (.loc m2.length) _ r4 (l2.trans l4) ⟨D, ?_, rfl⟩ q3
  show (S2.A ++ [D])[m2.length]? = some D
  rw [← r3.len, List.getElem?_append_right (Nat.le_refl _), Nat.sub_self]
  rfl
end
section
variable {Xp : XP} {p : XPs}
def pDispM (ps : List (PyData × PyData)) (m : Mm) : Rs E := xo (kvX ps) fun kvs => xg (decide (kvs.map (·.1)).Nodup) (xg (decide (ps.length ≤ 15)) (.ok (.loc m.length) (m ++ [dicE kvs])))
def xDispM (t : XPs) (g : Gm) (m : Mm) : Rs E := rb (t g m) pDispM
theorem i_DispM : IE (ofE Xp (xDispM p)) (dDispM (ofPs Xp p)) := fun g m Q q => post_rb q fun ps m1 q => let ⟨ks, h, q⟩ := post_xo q; let ⟨c, q⟩ := post_xg q; let ⟨c', q⟩ := post_xg q; ⟨ks, h, of_decide_eq_true c, of_decide_eq_true c', q⟩
end

/-! ### the list of a slot will not change any more -/
def slotL (g : Gm) (i : Nat) : Option Nat := match g[i]? with
  | some (some (.loc k)) => some k
  | _ => none
def dFrzV (i : Nat) (t : DTS) : DTS := fun D g m => ∃ k, slotL g i = some k ∧ dFrz k t D g m
section
variable {X : Cx} {sts : List Stmt} {t : DTS}
theorem dss_frzV (i : Nat) (h : DSs X sts t) : DSs X sts (dFrzV i t) := by
  obtain ⟨ts, p, s⟩ := h.ex
  exact ⟨ts, p, fun W S g m σ H D R r0 sl hq kk => let ⟨k, _, q⟩ := hq; snd_frz k s W S g m σ H D R r0 sl q kk⟩
end
section
variable {Xp : XP} {s : XS}
def xFrzV (i : Nat) (s : XS) (g : Gm) (m : Mm) : Rs Fl := xo (slotL g i) fun k => xFrz k s g m
theorem i_FrzV {i : Nat} : IS (ofS Xp (xFrzV i s)) (dFrzV i (ofS Xp s)) := fun D g m q => let ⟨k, h, q⟩ := post_xo (f := fun k => xFrz k s g m) q; ⟨k, h, i_Frz D g m q⟩
end

/-! ### recursion in pairs -/
section
variable {P : Program} {w : World} {K : PySem.W.Frag} {mg : Str → Option Value} {base : Heap} {f : Addr} {fd : FuncData} {ps : List Str}
theorem fuelDs {L d : Nat} (x : Nat → XF) (h0 : x 0 = noF) (step : ∀ n, FnD P w K mg base (L + d * n) f fd ps (ofF xp0 (x n)) → FnD P w K mg base (L + d * (n + 1)) f fd ps (ofF xp0 (x (n + 1)))) : ∀ n, FnD P w K mg base (L + d * n) f fd ps (ofF xp0 (x n))
  | 0 => by
    rw [h0]
    exact fnD_no
  | n + 1 => step n (fuelDs x h0 step n)
end
/-! ### three targets in a comprehension -/
theorem gonly3 {K : PySem.W.Frag} {i j l : Nat} (hij : i ≠ j) (hil : i ≠ l) (hjl : j ≠ l) : GOnly (gTup K 3 (gCons (gName i) (gCons (gName j) (gCons (gName l) gNil)))) [i, j, l] := fun x σ H Q h => by
  obtain ⟨a, xs, e, hs, hl, v, r, e1, w, r2, e2, u, r3, e3, e4, q⟩ := h
  refine ⟨a, xs, e, hs, hl, v, r, e1, w, r2, e2, u, r3, e3, e4, ?_, q⟩
  show (((((((((σ.set l none).set j none).set i none).set i (some v)).set j (some w)).set l (some u))).set l none).set j none).set i none = ((σ.set l none).set j none).set i none
  apply List.ext_getElem?
  intro n
  simp only [List.getElem?_set, List.length_set]
  by_cases h1 : i = n <;> by_cases h2 : j = n <;> by_cases h3 : l = n <;> simp [h1, h2, h3]
theorem snd_three {K : PySem.W.Frag} (i j l : Nat) : SndG K (gTup K 3 (gCons (gName i) (gCons (gName j) (gCons (gName l) gNil)))) (dgTup 3 (dgCons (dgName i) (dgCons (dgName j) (dgCons (dgName l) dgNil)))) := by
  intro W S g m σ H v e Q R r0 sl ev hq k
  obtain ⟨ds, rfl, hl, q⟩ := onTup_of hq
  obtain ⟨a, xs, rfl, hT, hA⟩ := dv_tup ev
  cases hA with
  | nil => simp at hl
  | cons ha t =>
    cases t with
    | nil => simp at hl
    | cons hb t2 =>
      cases t2 with
      | nil => simp at hl
      | cons hc t3 =>
        cases t3 with
        | cons _ _ => simp at hl
        | nil =>
          have q' : ([] : List E) = [] ∧ Q (((g.set i (some (.dat _))).set j (some (.dat _))).set l (some (.dat _))) m := q
          exact ⟨a, _, rfl, r0.sub.st hT, rfl, _, _, rfl, _, _, rfl, _, _, rfl, rfl, k _ H S _ m r0 (Le.refl S) (((sl.set (e := .dat _) ha).set (e := .dat _) hb).set (e := .dat _) hc) q'.2⟩
section
variable {X : Cx} {scope : Scope}
theorem cg_three {i j l : Nat} {x y z : Str} {p p2 p3 p4 : Pos} {kt : Nat} (hc : X.calm = true) (hN : X.N.Nodup) (hij : i ≠ j := by decide) (hil : i ≠ l := by decide) (hjl : j ≠ l := by decide) (hi : X.N[i]? = some x := by rfl) (hj : X.N[j]? = some y := by rfl) (hl : X.N[l]? = some z := by rfl)
    (hx : Loc (relS scope X.env.scope) x := by first | exact Or.inl rfl | exact Or.inr rfl) (hy : Loc (relS scope X.env.scope) y := by first | exact Or.inl rfl | exact Or.inr rfl) (hz : Loc (relS scope X.env.scope) z := by first | exact Or.inl rfl | exact Or.inr rfl)
    (hfx : (scope.names.lookup x == some .cell) = true ∨ (relS scope X.env.scope).names.lookup x = some .local := by first | exact .inr rfl | exact .inl rfl) (hfy : (scope.names.lookup y == some .cell) = true ∨ (relS scope X.env.scope).names.lookup y = some .local := by first | exact .inr rfl | exact .inl rfl) (hfz : (scope.names.lookup z == some .cell) = true ∨ (relS scope X.env.scope).names.lookup z = some .local := by first | exact .inr rfl | exact .inl rfl)
    (hn : ∀ env : Env, (assignEach [.Name x p, .Name y p2, .Name z p4] env).length = 3 := by intro _; rfl) (hst : ∀ env : Env, (assignEach [.Name x p, .Name y p2, .Name z p4] env).findIdx? (·.1) = none := by intro _; rfl) :
    CG X scope (.Tuple [.Name x p, .Name y p2, .Name z p4] kt p3) [i, j, l] (dgTup 3 (dgCons (dgName i) (dgCons (dgName j) (dgCons (dgName l) dgNil)))) := by
  refine ⟨gTup X.K 3 (gCons (gName i) (gCons (gName j) (gCons (gName l) gNil))), fun s H C cl fp => ?_, snd_three i j l, gonly3 hij hil hjl⟩
  have g1 : PG (X.blk s H scope (compEnvC scope cl C X.env) fp) (.Name x p) (gName i) := pg_name (X := X.blk s H scope (compEnvC scope cl C X.env) fp) hN hi hx hfx
  have g2 : PG (X.blk s H scope (compEnvC scope cl C X.env) fp) (.Name y p2) (gName j) := pg_name (X := X.blk s H scope (compEnvC scope cl C X.env) fp) hN hj hy hfy
  have g3 : PG (X.blk s H scope (compEnvC scope cl C X.env) fp) (.Name z p4) (gName l) := pg_name (X := X.blk s H scope (compEnvC scope cl C X.env) fp) hN hl hz hfz
  exact pg_tup (X := X.blk s H scope (compEnvC scope cl C X.env) fp) hc (pgs_cons g1 (pgs_cons g2 (pgs_cons g3 pgs_nil))) (hn _) (hst _)
end
theorem ig_Three {Xp : XP} {i j l : Nat} : IG (ofG Xp (xgTup 3 (xgCons (xgName i) (xgCons (xgName j) (xgCons (xgName l) xgNil))))) (dgTup 3 (dgCons (dgName i) (dgCons (dgName j) (dgCons (dgName l) dgNil)))) := fun e g m Q q => by
  have q' : (xo (tupX e) (kgTup 3 (xgCons (xgName i) (xgCons (xgName j) (xgCons (xgName l) xgNil))) g m)).post Q Xp := q
  obtain ⟨ds, h, q⟩ := post_xo q'
  obtain ⟨h2, q⟩ := post_xg q
  have hl := of_decide_eq_true h2
  refine tupX_of h ⟨hl, ?_⟩
  match ds, hl, q with
  | [a, b, c], _, q => exact ⟨rfl, q⟩
end DL
/-! DYg: the signs of a repr; lists of reprs compared. -/
namespace DL
open PySem PySem.Spec PyProof.Rows L2
def Asc (d : PyData) : Prop := ∀ c ∈ d.shown.cps.toList, c < 128
theorem rc_chk : ([34, 39].all fun q => (List.range 128).all fun c => (Builtin.Str.reprChar q c).all fun k => decide (k < 128)) = true := by decide +kernel
theorem rc_asc {q c : Nat} (hq : q = 34 ∨ q = 39) (hc : c < 128) : ∀ k ∈ Builtin.Str.reprChar q c, k < 128 := fun k hk => by
  have h1 := List.all_eq_true.mp rc_chk q (by rcases hq with rfl | rfl <;> simp)
  have h2 := List.all_eq_true.mp h1 c (List.mem_range.mpr hc)
  exact of_decide_eq_true (List.all_eq_true.mp h2 k hk)
theorem fold_asc {q : Nat} (hq : q = 34 ∨ q = 39) : ∀ (l : List Nat) (acc : Array Nat), (∀ c ∈ l, c < 128) → (∀ c ∈ acc.toList, c < 128) → ∀ c ∈ (l.foldl (fun out c => out ++ (Builtin.Str.reprChar q c).toArray) acc).toList, c < 128
  | [], acc, _, h => h
  | a :: l, acc, hl, h => fold_asc hq l _ (fun c hc => hl c (List.mem_cons_of_mem _ hc)) fun c hc => by
    rw [Array.toList_append, List.mem_append] at hc
    rcases hc with e | e
    · exact h c e
    · exact rc_asc hq (hl a List.mem_cons_self) c e
theorem asc_str {x : Str} (h : ∀ c ∈ x.cps.toList, c < 128) : Asc (.str x) := by
  intro c hc
  rw [PyData.shown] at hc
  have hq : reprQuote x = 34 ∨ reprQuote x = 39 := by
    unfold reprQuote
    split
    · exact Or.inl rfl
    · exact Or.inr rfl
  unfold reprText at hc
  rw [Array.toList_push, List.mem_append, ← Array.foldl_toList] at hc
  rcases hc with e | e
  · exact fold_asc hq _ _ h (fun k hk => by
      rw [List.mem_singleton.mp hk]
      rcases hq with z | z <;> (rw [z]; decide)) c e
  · rw [List.mem_singleton.mp e]
    rcases hq with z | z <;> (rw [z]; decide)
theorem asc_int (i : Int) : Asc (.int i) := fun c hc => Nat.lt_of_not_le fun h => shown_int_free' (k := c) ⟨by omega, Or.inr (by omega)⟩ i hc
theorem asc_none : Asc .none := by unfold Asc; rw [PyData.shown]; decide +kernel
theorem asc_bool (b : Bool) : Asc (.bool b) := by unfold Asc; rw [PyData.shown]; cases b <;> decide +kernel
theorem comma_asc : ∀ c ∈ (Str.ofString ", ").cps.toList, c < 128 := by decide +kernel
theorem from_asc : ∀ (ts : List Str) (k : Nat) (acc : Str), (∀ t ∈ ts, ∀ c ∈ t.cps.toList, c < 128) → (∀ c ∈ acc.cps.toList, c < 128) → ∀ c ∈ (textFrom k acc ts).cps.toList, c < 128
  | [], _, _, _, h => h
  | t :: r, k, acc, ht, h => from_asc r (k + 1) _ (fun u hu => ht u (List.mem_cons_of_mem _ hu)) fun c hc => by
    rw [mem_cps_append, mem_cps_append] at hc
    rcases hc with (e | e) | e
    · exact h c e
    · split at e
      · exact comma_asc c e
      · exact absurd e (by decide +revert +kernel)
    · exact ht t List.mem_cons_self c e
theorem all_asc {xs : List PyData} (h : ∀ d ∈ xs, Asc d) : ∀ t ∈ PyData.shownAll xs, ∀ c ∈ t.cps.toList, c < 128 := fun t ht c hc => by
  rw [shownAll_map] at ht
  obtain ⟨d, hd, rfl⟩ := List.mem_map.mp ht
  exact h d hd c hc
theorem asc_list {xs : List PyData} (h : ∀ d ∈ xs, Asc d) : Asc (.list xs) := fun c hc => by
  rw [PyData.shown] at hc
  unfold listText at hc
  rw [mem_cps_append] at hc
  rcases hc with e | e
  · exact from_asc _ _ _ (all_asc h) (by decide +kernel) c e
  · exact (by decide +kernel : ∀ c ∈ (Str.ofString "]").cps.toList, c < 128) c e
theorem asc_tup {xs : List PyData} (h : ∀ d ∈ xs, Asc d) : Asc (.tuple xs) := fun c hc => by
  rw [PyData.shown] at hc
  unfold tupleText at hc
  rw [mem_cps_append, mem_cps_append] at hc
  rcases hc with (e | e) | e
  · exact (by decide +kernel : ∀ c ∈ (Str.ofString "(").cps.toList, c < 128) c e
  · rcases (mem_join _ _ _).mp e with ⟨t, ht, e⟩ | ⟨_, e⟩
    · exact all_asc h t ht c e
    · exact comma_asc c e
  · rw [signs_tuple_end] at e
    split at e
    · simp only [List.mem_cons, List.not_mem_nil, or_false] at e
      omega
    · rw [List.mem_singleton.mp e]; decide
/-- a list of texts with signs below 128, compared with another one -/
theorem eq_texts {neg : Bool} {ts us : List Str} (h : ∀ t ∈ ts, ∀ c ∈ t.cps.toList, c < 128) (h' : ∀ t ∈ us, ∀ c ∈ t.cps.toList, c < 128) : yEqN neg (.list (ts.map .str)) (.list (us.map .str)) = some (.bool (ng neg (decide (ts = us)))) := by
  have sh : ∀ {ts : List Str}, (∀ t ∈ ts, ∀ c ∈ t.cps.toList, c < 128) → SeqAt.shaped (.list (ts.map .str)) = true := fun {ts} h => shaped_list fun d hd => by
    obtain ⟨t, ht, rfl⟩ := List.mem_map.mp hd
    exact can_str (strOk_of fun c hc => Nat.lt_of_lt_of_le (h t ht c hc) (by decide))
  rw [yEqN_of (sh h) (sh h')]
  congr 3
  clear h h' sh
  rw [PyData.eqv]
  induction ts generalizing us with
  | nil => cases us with
    | nil => simp [PyData.eqvAll]
    | cons u us => simp [PyData.eqvAll]
  | cons t ts ih => cases us with
    | nil => simp [PyData.eqvAll]
    | cons u us =>
      rw [List.map_cons, List.map_cons, PyData.eqvAll, ih, PyData.eqv, Bool.eq_iff_iff]
      simp
/-! ### a list comprehension, its slots told -/
theorem d_lcV {X : Cx} {tg iter e : Expr} {scope : Scope} {ti : DTI} {dg : DTG} {dt : DTT} {te : DTE} {ifs : List Expr} {pos : Pos} (own : List (Str × Nat)) (vs : List Nat) (hv : own.map (·.2) = vs) (hc : X.calm = true) (hN : X.N.Nodup) (hi : DI X tg iter ti) (ok : BlkOk X.N X.env.scope scope own) (hg : CG X scope tg vs dg) (ht : CT X scope ifs dt) (he : CE' X scope e te)
    (hs : ∀ x, foldedSetIterable iter X.env x = pure x := by intro _; rfl) : DE X (.ListComp e [⟨tg, iter, ifs, 0⟩] scope pos) (dLc ti dg dt te vs) := by
  subst hv
  exact d_lc own hc hN hi ok hg ht he hs
end DL

/-! what each def of the text computes (printed by genx.py) -/
namespace LL
open PySem PySem.Spec PyProof.Rows L2 DL
abbrev N_as_dict : List Str := ["disk", "name", "content"]
abbrev p_as_dicts : List Str := ["disk"]
def y_as_dict : XS :=
    (xRet (xDc true (xiA (xVar 0)) (xgTup 2 (xgCons (xgName 1) (xgCons (xgName 2) xgNil))) xYes (xVar 1) (xVar 2) [1, 2]))
def x_as_dict : XF := fDef N_as_dict y_as_dict
abbrev N_make_change : List Str := ["contents", "change", "word", "name", "others", "content"]
abbrev p_make_changes : List Str := ["contents", "change"]
def y_make_change : XS :=
    (xSeq (xAsg (xVar 1) (xgTupS 2 (xgCons (xgName 2) (xgCons (xgName 3) (xgCons (xgName 4) xgNil))))) 
    (xSeq (xIfS (xB (xOp (yEqN false) (xVar 2) (xC (.str "put")))) (xSeq (xAsg (xIx (xVar 4) (xC (.int 0))) (xgSub (xVar 0) (xVar 3))) 
    xRetN) xNext) 
    (xSeq (xAsg (xPop2 (xVar 0) (xVar 3) (xC .none)) (xgName 5)) 
    (xIfS (xB (xOp (yEqN false) (xVar 2) (xC (.str "move")))) (xSeq (xDrop (xPop2 (xVar 0) (xIx (xVar 4) (xC (.int 0))) (xC .none))) 
    (xIfS (xB (xOp (yIsN true) (xVar 5) (xC .none))) (xAsg (xVar 5) (xgSub (xVar 0) (xIx (xVar 4) (xC (.int 0))))) xNext)) xNext))))
def x_make_change : XF := fDef N_make_change y_make_change
abbrev N_Runner_is_true : List Str := ["self", "test", "word", "name", "others", "content", "other"]
abbrev p_Runner_is_trues : List Str := ["self", "test"]
def y_Runner_is_true (cRunner : Addr) : XS :=
    (xSeq (xAsg (xVar 1) (xgTupS 2 (xgCons (xgName 2) (xgCons (xgName 3) (xgCons (xgName 4) xgNil))))) 
    (xSeq (xAsg (xGet1A (xFld cRunner "contents_seen" (xVar 0)) (xVar 3)) (xgName 5)) 
    (xSeq (xIfS (xB (xOp (yEqN false) (xVar 2) (xC (.str "exists")))) (xRet (xOp (yIsN true) (xVar 5) (xC .none))) xNext) 
    (xSeq (xAsg (xIf (xB (xOp (yEqN false) (xVar 2) (xC (.str "is")))) (xIx (xVar 4) (xC (.int 0))) (xGet1A (xFld cRunner "contents_seen" (xVar 0)) (xIx (xVar 4) (xC (.int 0))))) (xgName 6)) 
    (xRet (xAndV (xOp (yIsN true) (xVar 5) (xC .none)) (xOp (yEqN false) (xVar 5) (xVar 6))))))))
def x_Runner_is_true (cRunner : Addr) : XF := fDef N_Runner_is_true (y_Runner_is_true cRunner)
abbrev N_Runner_change_of : List Str := ["self", "word", "parts", "name", "content"]
abbrev p_Runner_change_ofs : List Str := ["self", "word", "parts"]
def y_Runner_change_of (cRunner : Addr) : XS :=
    (xSeq (xAsg (xIx (xVar 2) (xC (.int 0))) (xgName 3)) 
    (xSeq (xIfS (xB (xOp (yEqN false) (xVar 1) (xC (.str "write")))) (xRet (xTup (xCons (xC (.str "put")) (xCons (xVar 3) (xCons (xIx (xVar 2) (xC (.int 1))) xNil))))) xNext) 
    (xSeq (xAsg (xGet1A (xFld cRunner "contents_seen" (xVar 0)) (xVar 3)) (xgName 4)) 
    (xSeq (xIfS (xB (xOp (yIsN false) (xVar 4) (xC .none))) (xRet (xC .none)) xNext) 
    (xSeq (xIfS (xB (xOp (yEqN false) (xVar 1) (xC (.str "copy")))) (xRet (xTup (xCons (xC (.str "put")) (xCons (xIx (xVar 2) (xC (.int 1))) (xCons (xVar 4) xNil))))) xNext) 
    (xRet (xIf (xB (xOp (yEqN false) (xVar 1) (xC (.str "rename")))) (xTup (xCons (xC (.str "move")) (xCons (xVar 3) (xCons (xIx (xVar 2) (xC (.int 1))) xNil)))) (xTup (xCons (xC (.str "remove")) (xCons (xVar 3) xNil))))))))))
def x_Runner_change_of (cRunner : Addr) : XF := fDef N_Runner_change_of (y_Runner_change_of cRunner)
abbrev N_Runner_execute_change : List Str := ["self", "word", "parts", "change"]
abbrev p_Runner_execute_changes : List Str := ["self", "word", "parts"]
def y_Runner_execute_change (cRunner : Addr) : XS :=
    (xSeq (xAsg (xMeth cRunner "change_of" 3 (x_Runner_change_of cRunner) (xVar 0) (xCons (xVar 1) (xCons (xVar 2) xNil))) (xgName 3)) 
    (xIfS (xB (xOp (yIsN true) (xVar 3) (xC .none))) (xSeq (xDrop (xApp (xFld cRunner "entries_made" (xVar 0)) (xVar 3))) 
    (xDrop (xCallT 2 x_make_change (xCons (xFld cRunner "contents_seen" (xVar 0)) (xCons (xVar 3) xNil))))) xNext))
def x_Runner_execute_change (cRunner : Addr) : XF := fDef N_Runner_execute_change (y_Runner_execute_change cRunner)
abbrev N_Runner_execute : List Str := ["self", "operation", "word", "parts"]
abbrev p_Runner_executes : List Str := ["self", "operation"]
def y_Runner_execute (cRunner : Addr) (r : XF) : XS :=
    (xSeq (xAsg (xVar 1) (xgTupS 1 (xgCons (xgName 2) (xgCons (xgName 3) xgNil)))) 
    (xIfS (xB (xOp (yEqN false) (xVar 2) (xC (.str "if")))) (xDrop (xMeth cRunner "execute_all" 2 r (xVar 0) (xCons (xIf (xB (xMeth cRunner "is_true" 2 (x_Runner_is_true cRunner) (xVar 0) (xCons (xIx (xVar 3) (xC (.int 0))) xNil))) (xIx (xVar 3) (xC (.int 1))) (xIx (xVar 3) (xC (.int 2)))) xNil))) (xIfS (xB (xOp (yIn false) (xVar 2) (xTup (xCons (xC (.str "sync")) (xCons (xC (.str "flush")) xNil))))) (xDrop (xApp (xFld cRunner "entries_made" (xVar 0)) (xVar 1))) (xDrop (xMeth cRunner "execute_change" 3 (x_Runner_execute_change cRunner) (xVar 0) (xCons (xVar 2) (xCons (xVar 3) xNil)))))))
def x_Runner_execute (cRunner : Addr) (r : XF) : XF := fDef N_Runner_execute (y_Runner_execute cRunner r)
abbrev N_Runner_execute_all : List Str := ["self", "script", "operation"]
abbrev p_Runner_execute_alls : List Str := ["self", "script"]
def y_Runner_execute_all (cRunner : Addr) (r : XF) : XS :=
    (xFor [2] false (xiA (xVar 1)) (xgName 2) (xDrop (xMeth cRunner "execute" 2 (x_Runner_execute cRunner r) (xVar 0) (xCons (xVar 2) xNil))))
def x_Runner_execute_all (cRunner : Addr) : Nat → XF
  | 0 => noF
  | n + 1 => fDef N_Runner_execute_all (y_Runner_execute_all cRunner (x_Runner_execute_all cRunner n))
abbrev N_Runner_init : List Str := ["self", "script", "disk"]
abbrev p_Runner_inits : List Str := ["self", "script", "disk"]
def y_Runner_init (cRunner : Addr) : XS :=
    (xSeq (xFldS cRunner "contents_seen" (xVar 0) (xCallA 1 x_as_dict (xCons (xVar 2) xNil))) 
    (xSeq (xFldS cRunner "entries_made" (xVar 0) (xLstM xNil)) 
    (xDrop (xMeth cRunner "execute_all" 2 (x_Runner_execute_all cRunner 20) (xVar 0) (xCons (xVar 1) xNil)))))
def x_Runner_init (cRunner : Addr) : XF := fDef N_Runner_init (y_Runner_init cRunner)
abbrev N_trace : List Str := ["script", "disk"]
abbrev p_traces : List Str := ["script", "disk"]
def y_trace (cRunner : Addr) : XS :=
    (xRet (xCB yTuple (xCons (xFld cRunner "entries_made" (xMake cRunner 3 (x_Runner_init cRunner) (xCons (xVar 0) (xCons (xVar 1) xNil)))) xNil)))
def x_trace (cRunner : Addr) : XF := fDef N_trace (y_trace cRunner)
abbrev N_law_deck : List Str := ["_law_script_here", "_law_cells", "_law_mixed", "_law_cell"]
abbrev p_law_decks : List Str := ["_law_script_here"]
def y_law_deck : XS :=
    (xSeq (xPar 1 2 (xCons (xCB yList (xCons (xSl (xVar 0) xNoPart (xPart (xC (.int 63)))) xNil)) (xCons (xC (.int 11003)) xNil))) 
    (xSeq (xFor [3] false (xiA (xVar 1)) (xgName 3) (xAsg (xOp yMod (xOp yAdd (xOp yAdd (xOp yMul (xVar 2) (xC (.int 69621))) (xOp yMod (xVar 3) (xC (.int 2147483629)))) (xC (.int 41))) (xC (.int 2147483587))) (xgName 2))) 
    (xRet (xLstM (xCons (xRevM (xVar 1)) (xCons (xVar 2) (xCons (xC (.int 0)) xNil)))))))
def x_law_deck : XF := fDef N_law_deck y_law_deck
abbrev N_law_draw : List Str := ["_law_deck_here", "_law_count", "_law_cell", "_law_number"]
abbrev p_law_draws : List Str := ["_law_deck_here", "_law_count"]
def y_law_draw : XS :=
    (xSeq (xAsg (xOp yAdd (xIx (xVar 0) (xC (.int 2))) (xC (.int 1))) (xgSub (xVar 0) (xC (.int 2)))) 
    (xSeq (xAsg (xIx (xVar 0) (xC (.int 1))) (xgName 2)) 
    (xSeq (xIfS (xB (xOp (yEqN true) (xIx (xVar 0) (xC (.int 0))) (xLst xNil))) (xSeq (xAsg (xPop (xIx (xVar 0) (xC (.int 0)))) (xgName 2)) 
    (xSeq (xIfS (xB (xOp yGe (xVar 2) (xOp yPow (xC (.int 10)) (xC (.int 18))))) (xSeq (xDrop (xApp (xIx (xVar 0) (xC (.int 0))) (xOp yDiv (xVar 2) (xVar 1)))) 
    (xRet (xOp yMod (xVar 2) (xVar 1)))) xNext) 
    (xAsg (xOp yAdd (xVar 2) (xIx (xVar 0) (xC (.int 1)))) (xgName 2)))) xNext) 
    (xSeq (xAsg (xOp yMod (xOp yMul (xOp yAdd (xOp yAdd (xOp yMod (xVar 2) (xC (.int 2147483629))) (xOp yMul (xOp yMul (xC (.int 93251)) (xIx (xVar 0) (xC (.int 2)))) (xIx (xVar 0) (xC (.int 2))))) (xC (.int 23))) (xC (.int 48271))) (xC (.int 2147483647))) (xgName 3)) 
    (xSeq (xAsg (xOp yMod (xOp yAdd (xOp yAdd (xOp yMul (xVar 3) (xVar 3)) (xOp yMul (xC (.int 69621)) (xIx (xVar 0) (xC (.int 2))))) (xC (.int 11))) (xC (.int 2147483587))) (xgName 3)) 
    (xRet (xOp yMod (xOp yDiv (xOp yMod (xOp yMul (xVar 3) (xOp yAdd (xOp yDiv (xVar 3) (xC (.int 5))) (xC (.int 40692)))) (xC (.int 2147483563))) (xC (.int 64))) (xVar 1))))))))
def x_law_draw : XF := fDef N_law_draw y_law_draw
abbrev N_law_pick : List Str := ["_law_deck_here", "_law_options"]
abbrev p_law_picks : List Str := ["_law_deck_here", "_law_options"]
def y_law_pick : XS :=
    (xRet (xIx (xVar 1) (xCallN 2 2 x_law_draw (xCons (xVar 0) (xCons (xCB yLen (xCons (xVar 1) xNil)) xNil)))))
def x_law_pick : XF := fDef N_law_pick y_law_pick
abbrev N_law_kit : List Str := ["_law_deck_here", "_law_amount", "_law_way", "_law_first", "_law_words", "_law_found", "_law_k", "_law_letter", "_law_texts"]
abbrev p_law_kits : List Str := ["_law_deck_here", "_law_amount"]
def y_law_kit : XS :=
    (xSeq (xPar 2 3 (xCons (xCallN 2 2 x_law_draw (xCons (xVar 0) (xCons (xC (.int 3)) xNil))) (xCons (xCallN 2 2 x_law_draw (xCons (xVar 0) (xCons (xC (.int 26)) xNil))) xNil))) 
    (xSeq (xAsg (xM1 ySplit (xC (.str "write copy rename delete sync flush if is exists same put move remove none")) (xC (.str " "))) (xgName 4)) 
    (xSeq (xAsg (xLstM xNil) (xgName 5)) 
    (xSeq (xFor [6, 7] false (xiR1 (xCons (xVar 1) xNil)) (xgName 6) (xSeq (xAsg (xIx (xC (.str "abcdefghijklmnopqrstuvwxyz")) (xOp yMod (xOp yAdd (xVar 3) (xOp yMul (xC (.int 7)) (xVar 6))) (xC (.int 26)))) (xgName 7)) 
    (xDrop (xApp (xVar 5) (xIx (xLst (xCons (xVar 7) (xCons (xIx (xVar 4) (xOp yMod (xOp yAdd (xVar 3) (xOp yMul (xC (.int 3)) (xVar 6))) (xC (.int 14)))) (xCons (xOp yAdd (xC (.str "ab")) (xSl (xC (.str "abcdef")) xNoPart (xPart (xVar 6)))) xNil)))) (xVar 2)))))) 
    (xFrzV 5 (xSeq (xAsg (xCallN 2 2 x_law_pick (xCons (xVar 0) (xCons (xLst (xCons (xLst (xCons (xC (.str "X")) (xCons (xC (.str "Y")) xNil))) (xCons (xLst (xCons (xC (.str "A")) (xCons (xC (.str "AA")) xNil))) (xCons (xLst (xCons (xC (.str "WRITE")) (xCons (xC (.str "DONE")) xNil))) (xCons (xLst (xCons (xM0 yUpper (xIx (xVar 5) (xC (.int 0)))) (xCons (xC (.str "ZZZZZZZZ")) xNil))) xNil))))) xNil))) (xgName 8)) 
    (xRet (xDispM (xpCons (xC (.str "names")) (xVar 5) (xpCons (xC (.str "texts")) (xVar 8) xpNil))))))))))
def x_law_kit : XF := fDef N_law_kit y_law_kit
abbrev N_law_test : List Str := ["_law_deck_here", "_law_kit_here", "_law_one", "_law_two", "_law_other", "_law_far", "_law_text"]
abbrev p_law_tests : List Str := ["_law_deck_here", "_law_kit_here"]
def y_law_test : XS :=
    (xSeq (xAsg (xTup (xCons (xCallN 2 2 x_law_pick (xCons (xVar 0) (xCons (xIx (xVar 1) (xC (.str "names"))) xNil))) (xCons (xCallN 2 2 x_law_draw (xCons (xVar 0) (xCons (xOp ySub (xCB yLen (xCons (xIx (xVar 1) (xC (.str "names"))) xNil)) (xC (.int 1))) xNil))) xNil))) (xgTup 2 (xgCons (xgName 2) (xgCons (xgName 3) xgNil)))) 
    (xSeq (xAsg (xIx (xLc (xiA (xIx (xVar 1) (xC (.str "names")))) (xgName 5) (xB (xOp (yEqN true) (xVar 5) (xVar 2))) (xVar 5) [5]) (xVar 3)) (xgName 4)) 
    (xSeq (xAsg (xCallN 2 2 x_law_pick (xCons (xVar 0) (xCons (xIx (xVar 1) (xC (.str "texts"))) xNil))) (xgName 6)) 
    (xRet (xIx (xLst (xCons (xTup (xCons (xC (.str "exists")) (xCons (xVar 2) xNil))) (xCons (xTup (xCons (xC (.str "same")) (xCons (xVar 2) (xCons (xVar 4) xNil)))) (xCons (xTup (xCons (xC (.str "is")) (xCons (xVar 2) (xCons (xVar 6) xNil)))) xNil)))) (xCallN 2 2 x_law_draw (xCons (xVar 0) (xCons (xC (.int 3)) xNil))))))))
def x_law_test : XF := fDef N_law_test y_law_test
abbrev N_law_operation : List Str := ["_law_deck_here", "_law_kit_here", "_law_word", "_law_one", "_law_two", "_law_other", "_law_far"]
abbrev p_law_operations : List Str := ["_law_deck_here", "_law_kit_here"]
def y_law_operation : XS :=
    (xSeq (xAsg (xCallN 2 2 x_law_pick (xCons (xVar 0) (xCons (xIx (xVar 1) (xC (.str "words"))) xNil))) (xgName 2)) 
    (xSeq (xAsg (xTup (xCons (xCallN 2 2 x_law_pick (xCons (xVar 0) (xCons (xIx (xVar 1) (xC (.str "names"))) xNil))) (xCons (xCallN 2 2 x_law_draw (xCons (xVar 0) (xCons (xOp ySub (xCB yLen (xCons (xIx (xVar 1) (xC (.str "names"))) xNil)) (xC (.int 1))) xNil))) xNil))) (xgTup 2 (xgCons (xgName 3) (xgCons (xgName 4) xgNil)))) 
    (xSeq (xAsg (xIx (xLc (xiA (xIx (xVar 1) (xC (.str "names")))) (xgName 6) (xB (xOp (yEqN true) (xVar 6) (xVar 3))) (xVar 6) [6]) (xVar 4)) (xgName 5)) 
    (xSeq (xIfS (xB (xOp (yEqN false) (xVar 2) (xC (.str "sync")))) (xRet (xTup (xCons (xVar 2) xNil))) xNext) 
    (xSeq (xIfS (xOr (xB (xOp (yEqN false) (xVar 2) (xC (.str "flush")))) (xB (xOp yLt (xIx (xVar 1) (xC (.str "left"))) (xC (.int 1))))) (xRet (xTup (xCons (xC (.str "flush")) (xCons (xVar 3) xNil)))) xNext) 
    (xSeq (xAsg (xOp ySub (xIx (xVar 1) (xC (.str "left"))) (xC (.int 1))) (xgSub (xVar 1) (xC (.str "left")))) 
    (xSeq (xIfS (xB (xOp (yEqN false) (xVar 2) (xC (.str "write")))) (xRet (xTup (xCons (xVar 2) (xCons (xVar 3) (xCons (xCallN 2 2 x_law_pick (xCons (xVar 0) (xCons (xIx (xVar 1) (xC (.str "texts"))) xNil))) xNil))))) xNext) 
    (xRet (xIf (xB (xOp (yEqN false) (xVar 2) (xC (.str "delete")))) (xTup (xCons (xVar 2) (xCons (xVar 3) xNil))) (xTup (xCons (xVar 2) (xCons (xVar 3) (xCons (xVar 5) xNil)))))))))))))
def x_law_operation : XF := fDef N_law_operation y_law_operation
abbrev N_law_script : List Str := ["_law_deck_here", "_law_kit_here", "_law_deep", "_law_found", "_law_k", "_law_bodies", "_law_turn"]
abbrev p_law_scripts : List Str := ["_law_deck_here", "_law_kit_here", "_law_deep"]
def y_law_script (r : XF) : XS :=
    (xSeq (xAsg (xLstM xNil) (xgName 3)) 
    (xSeq (xFor [4, 5, 6] false (xiR1 (xCons (xCallN 2 2 x_law_draw (xCons (xVar 0) (xCons (xC (.int 6)) xNil))) xNil)) (xgName 4) (xSeq (xIfS (xB (xOp yLt (xIx (xVar 1) (xC (.str "room"))) (xC (.int 1)))) (xRet (xCB yTuple (xCons (xVar 3) xNil))) xNext) 
    (xSeq (xAsg (xOp ySub (xIx (xVar 1) (xC (.str "room"))) (xC (.int 1))) (xgSub (xVar 1) (xC (.str "room")))) 
    (xIfS (xAnd (xB (xOp yGt (xVar 2) (xC (.int 0)))) (xB (xOp (yEqN false) (xCallN 2 2 x_law_draw (xCons (xVar 0) (xCons (xC (.int 3)) xNil))) (xC (.int 0))))) (xSeq (xAsg (xLc (xiR1 (xCons (xC (.int 2)) xNil)) (xgName 6) xYes (xCallT 3 r (xCons (xVar 0) (xCons (xVar 1) (xCons (xOp ySub (xVar 2) (xC (.int 1))) xNil)))) [6]) (xgName 5)) 
    (xDrop (xApp (xVar 3) (xTup (xCons (xC (.str "if")) (xCons (xCallT 2 x_law_test (xCons (xVar 0) (xCons (xVar 1) xNil))) (xCons (xIx (xVar 5) (xC (.int 0))) (xCons (xIx (xVar 5) (xC (.int 1))) xNil)))))))) (xDrop (xApp (xVar 3) (xCallT 2 x_law_operation (xCons (xVar 0) (xCons (xVar 1) xNil))))))))) 
    (xRet (xCB yTuple (xCons (xVar 3) xNil)))))
def x_law_script : Nat → XF
  | 0 => noF
  | n + 1 => fDef N_law_script (y_law_script (x_law_script n))
abbrev N_law_disk : List Str := ["_law_deck_here", "_law_kit_here", "_law_more", "_law_found", "_law_title", "_law_content"]
abbrev p_law_disks : List Str := ["_law_deck_here", "_law_kit_here", "_law_more"]
def y_law_disk : XS :=
    (xSeq (xAsg (xLstM xNil) (xgName 3)) 
    (xSeq (xFor [4, 5] false (xiA (xCB ySortSet (xCons (xOp yAdd (xIx (xVar 1) (xC (.str "names"))) (xVar 2)) xNil))) (xgName 4) (xSeq (xAsg (xCallN 2 2 x_law_pick (xCons (xVar 0) (xCons (xOp yAdd (xIx (xVar 1) (xC (.str "texts"))) (xLst (xCons (xC (.int 0)) (xCons (xC (.int 1)) (xCons (xC (.int 1)) (xCons (xOp yPow (xC (.int 10)) (xC (.int 39))) (xCons (xCallN 2 2 x_law_draw (xCons (xVar 0) (xCons (xC (.int 50)) xNil))) (xCons (xC (.str "Q")) (xCons (xC .none) (xCons (xC .none) (xCons (xC .none) xNil))))))))))) xNil))) (xgName 5)) 
    (xDrop (xExt (xVar 3) (xOp yMul (xLst (xCons (xTup (xCons (xVar 4) (xCons (xVar 5) xNil))) xNil)) (xCB yInt (xCons (xOp (yIsN true) (xVar 5) (xC .none)) xNil))))))) 
    (xRet (xCB yTuple (xCons (xVar 3) xNil)))))
def x_law_disk : XF := fDef N_law_disk y_law_disk
abbrev N_law_make : List Str := ["_law_files", "_law_change", "_law_word", "_law_title", "_law_other", "_law_content"]
abbrev p_law_makes : List Str := ["_law_files", "_law_change"]
def y_law_make : XS :=
    (xSeq (xAsg (xSl (xOp yAdd (xVar 1) (xTup (xCons (xC .none) xNil))) xNoPart (xPart (xC (.int 3)))) (xgTup 3 (xgCons (xgName 2) (xgCons (xgName 3) (xgCons (xgName 4) xgNil))))) 
    (xSeq (xIfS (xB (xOp (yEqN false) (xVar 2) (xC (.str "put")))) (xSeq (xAsg (xVar 4) (xgSub (xVar 0) (xVar 3))) 
    xRetN) xNext) 
    (xSeq (xAsg (xPop2 (xVar 0) (xVar 3) (xC .none)) (xgName 5)) 
    (xIfS (xAnd (xB (xOp (yEqN false) (xVar 2) (xC (.str "move")))) (xB (xOp (yIsN false) (xVar 5) (xC .none)))) (xDrop (xPop2 (xVar 0) (xVar 4) (xC .none))) (xIfS (xB (xOp (yEqN false) (xVar 2) (xC (.str "move")))) (xAsg (xVar 5) (xgSub (xVar 0) (xVar 4))) xNext)))))
def x_law_make : XF := fDef N_law_make y_law_make
abbrev N_law_so : List Str := ["_law_test_here", "_law_files", "_law_word", "_law_title", "_law_other"]
abbrev p_law_sos : List Str := ["_law_test_here", "_law_files"]
def y_law_so : XS :=
    (xSeq (xAsg (xSl (xOp yAdd (xVar 0) (xTup (xCons (xC .none) xNil))) xNoPart (xPart (xC (.int 3)))) (xgTup 3 (xgCons (xgName 2) (xgCons (xgName 3) (xgCons (xgName 4) xgNil))))) 
    (xSeq (xIfS (xOr (xB (xOp (yEqN false) (xVar 2) (xC (.str "exists")))) (xB (xInD true (xVar 3) (xVar 1)))) (xRet (xInD false (xVar 3) (xVar 1))) xNext) 
    (xRet (xOp (yEqN false) (xIx (xVar 1) (xVar 3)) (xIf (xB (xOp (yEqN false) (xVar 2) (xC (.str "is")))) (xVar 4) (xGet2 (xVar 1) (xVar 4) (xC .none)))))))
def x_law_so : XF := fDef N_law_so y_law_so
abbrev N_law_entries : List Str := ["_law_plan", "_law_files", "_law_found", "_law_operation_here", "_law_word", "_law_title", "_law_other", "_law_change"]
abbrev p_law_entriess : List Str := ["_law_plan", "_law_files"]
def y_law_entries (r : XF) : XS :=
    (xSeq (xAsg (xLstM xNil) (xgName 2)) 
    (xSeq (xFor [3, 4, 5, 6, 7] false (xiA (xVar 0)) (xgName 3) (xSeq (xAsg (xSl (xOp yAdd (xVar 3) (xTup (xCons (xC .none) (xCons (xC .none) xNil)))) xNoPart (xPart (xC (.int 3)))) (xgTup 3 (xgCons (xgName 4) (xgCons (xgName 5) (xgCons (xgName 6) xgNil))))) 
    (xIfS (xB (xOp (yEqN false) (xVar 4) (xC (.str "if")))) (xAsg (xAddM (xVar 2) (xCallT 2 r (xCons (xIx (xVar 3) (xIf (xB (xCallT 2 x_law_so (xCons (xVar 5) (xCons (xVar 1) xNil)))) (xC (.int 2)) (xC (.int 3)))) (xCons (xVar 1) xNil)))) (xgName 2)) (xIfS (xB (xOp (yIn false) (xVar 4) (xTup (xCons (xC (.str "sync")) (xCons (xC (.str "flush")) xNil))))) (xDrop (xApp (xVar 2) (xVar 3))) (xIfS (xOr (xB (xOp (yEqN false) (xVar 4) (xC (.str "write")))) (xB (xInD false (xVar 5) (xVar 1)))) (xSeq (xAsg (xGet2 (xDisp (xpCons (xC (.str "write")) (xTup (xCons (xC (.str "put")) (xCons (xVar 5) (xCons (xVar 6) xNil)))) (xpCons (xC (.str "copy")) (xTup (xCons (xC (.str "put")) (xCons (xVar 6) (xCons (xGet2 (xVar 1) (xVar 5) (xC .none)) xNil)))) xpNil))) (xVar 4) (xC .none)) (xgName 7)) 
    (xSeq (xAsg (xGet2 (xDisp (xpCons (xC (.str "rename")) (xTup (xCons (xC (.str "move")) (xCons (xVar 5) (xCons (xVar 6) xNil)))) (xpCons (xC (.str "delete")) (xTup (xCons (xC (.str "remove")) (xCons (xVar 5) xNil))) xpNil))) (xVar 4) (xVar 7)) (xgName 7)) 
    (xSeq (xDrop (xCallT 2 x_law_make (xCons (xVar 1) (xCons (xVar 7) xNil)))) 
    (xDrop (xApp (xVar 2) (xVar 7)))))) xNext))))) 
    (xFrzV 2 (xRet (xVar 2)))))
def x_law_entries : Nat → XF
  | 0 => noF
  | n + 1 => fDef N_law_entries (y_law_entries (x_law_entries n))
abbrev N_law_by_hand : List Str := ["_law_yes", "_law_no", "_law_found", "_law_test_here", "_law_here", "_law_so_here", "_law_seen"]
abbrev p_law_by_hands : List Str := []
def y_law_by_hand : XS :=
    (xSeq (xAsg (xTup (xCons (xTup (xCons (xTup (xCons (xC (.str "sync")) xNil)) xNil)) (xCons (xTup (xCons (xTup (xCons (xC (.str "flush")) (xCons (xC (.str "b")) xNil))) xNil)) xNil))) (xgTup 2 (xgCons (xgName 0) (xgCons (xgName 1) xgNil)))) 
    (xSeq (xAsg (xLstM xNil) (xgName 2)) 
    (xSeq (xFor [3, 4, 5] false (xiA (xLst (xCons (xTup (xCons (xTup (xCons (xC (.str "exists")) (xCons (xC (.str "a")) xNil))) (xCons (xTup (xCons (xTup (xCons (xC (.str "a")) (xCons (xC (.int 0)) xNil))) xNil)) (xCons (xC (.bool true)) xNil)))) (xCons (xTup (xCons (xTup (xCons (xC (.str "exists")) (xCons (xC (.str "a")) xNil))) (xCons (xTup (xCons (xTup (xCons (xC (.str "b")) (xCons (xC (.int 0)) xNil))) xNil)) (xCons (xC (.bool false)) xNil)))) (xCons (xTup (xCons (xTup (xCons (xC (.str "same")) (xCons (xC (.str "a")) (xCons (xC (.str "b")) xNil)))) (xCons (xTup xNil) (xCons (xC (.bool false)) xNil)))) (xCons (xTup (xCons (xTup (xCons (xC (.str "same")) (xCons (xC (.str "a")) (xCons (xC (.str "b")) xNil)))) (xCons (xTup (xCons (xTup (xCons (xC (.str "a")) (xCons (xC (.int 1)) xNil))) (xCons (xTup (xCons (xC (.str "b")) (xCons (xC (.int 1)) xNil))) xNil))) (xCons (xC (.bool true)) xNil)))) (xCons (xTup (xCons (xTup (xCons (xC (.str "same")) (xCons (xC (.str "a")) (xCons (xC (.str "b")) xNil)))) (xCons (xTup (xCons (xTup (xCons (xC (.str "a")) (xCons (xC (.int 1)) xNil))) (xCons (xTup (xCons (xC (.str "b")) (xCons (xC (.int 2)) xNil))) xNil))) (xCons (xC (.bool false)) xNil)))) (xCons (xTup (xCons (xTup (xCons (xC (.str "same")) (xCons (xC (.str "a")) (xCons (xC (.str "b")) xNil)))) (xCons (xTup (xCons (xTup (xCons (xC (.str "a")) (xCons (xC (.int 1)) xNil))) xNil)) (xCons (xC (.bool false)) xNil)))) (xCons (xTup (xCons (xTup (xCons (xC (.str "same")) (xCons (xC (.str "a")) (xCons (xC (.str "b")) xNil)))) (xCons (xTup (xCons (xTup (xCons (xC (.str "a")) (xCons (xC (.str "X")) xNil))) (xCons (xTup (xCons (xC (.str "b")) (xCons (xC (.str "X")) xNil))) xNil))) (xCons (xC (.bool true)) xNil)))) (xCons (xTup (xCons (xTup (xCons (xC (.str "is")) (xCons (xC (.str "a")) (xCons (xC (.str "X")) xNil)))) (xCons (xTup (xCons (xTup (xCons (xC (.str "a")) (xCons (xC (.str "X")) xNil))) xNil)) (xCons (xC (.bool true)) xNil)))) (xCons (xTup (xCons (xTup (xCons (xC (.str "is")) (xCons (xC (.str "a")) (xCons (xC (.str "X")) xNil)))) (xCons (xTup (xCons (xTup (xCons (xC (.str "a")) (xCons (xC (.int 0)) xNil))) xNil)) (xCons (xC (.bool false)) xNil)))) (xCons (xTup (xCons (xTup (xCons (xC (.str "is")) (xCons (xC (.str "a")) (xCons (xC (.str "X")) xNil)))) (xCons (xTup xNil) (xCons (xC (.bool false)) xNil)))) (xCons (xTup (xCons (xTup (xCons (xC (.str "is")) (xCons (xC (.str "a")) (xCons (xC (.str "X")) xNil)))) (xCons (xTup (xCons (xTup (xCons (xC (.str "a")) (xCons (xC (.str "XX")) xNil))) (xCons (xTup (xCons (xC (.str "b")) (xCons (xC (.str "X")) xNil))) xNil))) (xCons (xC (.bool false)) xNil)))) (xCons (xTup (xCons (xTup (xCons (xC (.str "same")) (xCons (xC (.str "b")) (xCons (xC (.str "a")) xNil)))) (xCons (xTup (xCons (xTup (xCons (xC (.str "b")) (xCons (xC (.int 3)) xNil))) xNil)) (xCons (xC (.bool false)) xNil)))) xNil)))))))))))))) (xgTup 3 (xgCons (xgName 3) (xgCons (xgName 4) (xgCons (xgName 5) xgNil)))) (xDrop (xApp (xVar 2) (xTup (xCons (xTup (xCons (xTup (xCons (xC (.str "if")) (xCons (xVar 3) (xCons (xVar 0) (xCons (xVar 1) xNil))))) xNil)) (xCons (xVar 4) (xCons (xIx (xLst (xCons (xVar 1) (xCons (xVar 0) xNil))) (xCB yInt (xCons (xVar 5) xNil))) xNil))))))) 
    (xFrzV 2 (xSeq (xAsg (xTup (xCons (xTup (xCons (xC (.str "write")) (xCons (xC (.str "a")) (xCons (xC (.str "X")) xNil)))) (xCons (xTup (xCons (xC (.str "if")) (xCons (xTup (xCons (xC (.str "is")) (xCons (xC (.str "a")) (xCons (xC (.str "X")) xNil)))) (xCons (xTup (xCons (xTup (xCons (xC (.str "rename")) (xCons (xC (.str "a")) (xCons (xC (.str "b")) xNil)))) xNil)) (xCons (xTup xNil) xNil))))) xNil))) (xgName 6)) 
    (xSeq (xAsg (xOp yAdd (xVar 6) (xTup (xCons (xTup (xCons (xC (.str "if")) (xCons (xTup (xCons (xC (.str "exists")) (xCons (xC (.str "a")) xNil))) (xCons (xVar 1) (xCons (xTup (xCons (xTup (xCons (xC (.str "if")) (xCons (xTup (xCons (xC (.str "same")) (xCons (xC (.str "a")) (xCons (xC (.str "b")) xNil)))) (xCons (xVar 1) (xCons (xVar 0) xNil))))) xNil)) xNil))))) xNil))) (xgName 6)) 
    (xRet (xOp yAdd (xVar 2) (xLst (xCons (xTup (xCons (xVar 6) (xCons (xTup (xCons (xTup (xCons (xC (.str "a")) (xCons (xC (.int 5)) xNil))) xNil)) (xCons (xTup (xCons (xTup (xCons (xC (.str "put")) (xCons (xC (.str "a")) (xCons (xC (.str "X")) xNil)))) (xCons (xTup (xCons (xC (.str "move")) (xCons (xC (.str "a")) (xCons (xC (.str "b")) xNil)))) (xCons (xTup (xCons (xC (.str "sync")) xNil)) xNil)))) xNil)))) xNil))))))))))
@[irreducible] def x_law_by_hand : XF := fDef N_law_by_hand y_law_by_hand
theorem xq_law_by_hand : x_law_by_hand = fDef N_law_by_hand y_law_by_hand := by
  unfold x_law_by_hand
  rfl
abbrev N_law : List Str := ["_law_script_here", "_law_deck_here", "_law_words", "_law_turn", "_law_kit_here", "_law_plan", "_law_here", "_law_due"]
abbrev p_laws : List Str := ["_law_script_here"]
def y_law (cRunner : Addr) : XS :=
    (xSeq (xAsg (xCallA 1 x_law_deck (xCons (xVar 0) xNil)) (xgName 1)) 
    (xSeq (xAsg (xLst (xCons (xC (.str "write")) (xCons (xC (.str "write")) (xCons (xC (.str "copy")) (xCons (xC (.str "copy")) (xCons (xC (.str "rename")) (xCons (xC (.str "delete")) (xCons (xC (.str "sync")) (xCons (xC (.str "flush")) xNil))))))))) (xgName 2)) 
    (xSeq (xFor [3, 4, 5, 6, 7] true (xiR1 (xCons (xC (.int 30)) xNil)) (xgName 3) (xSeq (xAsg (xCallA 2 x_law_kit (xCons (xVar 1) (xCons (xOp yAdd (xC (.int 3)) (xCallN 2 2 x_law_draw (xCons (xVar 1) (xCons (xC (.int 3)) xNil)))) xNil))) (xgName 4)) 
    (xSeq (xDrop (xUpd (xVar 4) (xDisp (xpCons (xC (.str "left")) (xC (.int 8)) (xpCons (xC (.str "room")) (xC (.int 24)) (xpCons (xC (.str "words")) (xVar 2) xpNil)))))) 
    (xSeq (xPar 5 6 (xCons (xCallT 3 (x_law_script 20) (xCons (xVar 1) (xCons (xVar 4) (xCons (xC (.int 3)) xNil)))) (xCons (xCallT 3 x_law_disk (xCons (xVar 1) (xCons (xVar 4) (xCons (xLst (xCons (xC (.str "other")) xNil)) xNil)))) xNil))) 
    (xSeq (xAsg (xCB yTuple (xCons (xCallT 2 (x_law_entries 20) (xCons (xVar 5) (xCons (xDictP true (xCons (xCB yList (xCons (xVar 6) xNil)) xNil)) xNil))) xNil)) (xgName 7)) 
    (xIfS (xOr (xB (xOp (yEqN true) (xCB yReprA (xCons (xCallN 2 0 (x_trace cRunner) (xCons (xVar 5) (xCons (xVar 6) xNil))) xNil)) (xCB yReprA (xCons (xVar 7) xNil)))) (xB (xOp (yEqN true) (xCB yReprA (xCons (xCallK (gK 1 1 [0, 1]) 2 0 (x_trace cRunner) (xCons (xVar 5) xNil) (xCons (xVar 6) xNil)) xNil)) (xCB yReprA (xCons (xVar 7) xNil))))) (xRet (xC (.bool false))) xNext)))))) 
    (xRet (xOp (yEqN false) (xLc (xiA (xCallN 0 0 x_law_by_hand xNil)) (xgTup 3 (xgCons (xgName 5) (xgCons (xgName 6) (xgCons (xgName 7) xgNil)))) (xB (xOp (yEqN true) (xCB yReprA (xCons (xCallN 2 0 (x_trace cRunner) (xCons (xVar 5) (xCons (xVar 6) xNil))) xNil)) (xCB yReprA (xCons (xVar 7) xNil)))) (xVar 5) [5, 6, 7]) (xLst xNil))))))
def x_law (cRunner : Addr) : XF := fDef N_law (y_law cRunner)
end LL
/-! disks as typed data; their integers, numbered. -/
namespace LL
open PySem PySem.Spec PyProof.Rows L2 DL
abbrev Ct := Str ⊕ Int
def ctD : Ct → PyData
  | .inl s => .str s
  | .inr i => .int i
abbrev Dk := List (Str × Ct)
def entD (p : Str × Ct) : PyData := .tuple [.str p.1, ctD p.2]
def diskD (d : Dk) : PyData := .tuple (d.map entD)
def add1 (l : List Int) (i : Int) : List Int := if i ∈ l then l else l ++ [i]
def addC (l : List Int) (p : Str × Ct) : List Int := match p.2 with
  | .inl _ => l
  | .inr i => add1 l i
def idx (i : Int) : List Int → Nat
  | [] => 0
  | j :: l => if j = i then 0 else idx i l + 1
/-- the integers of some disks, each once -/
def intsL (l : List Int) (d : Dk) : List Int := d.foldl addC l
def renC (t : List Int) : Ct → Ct
  | .inl s => .inl s
  | .inr i => .inr (idx i t)
def renD (t : List Int) (d : Dk) : Dk := d.map fun p => (p.1, renC t p.2)
theorem add1_nodup {l : List Int} {i : Int} (h : l.Nodup) : (add1 l i).Nodup := by
  unfold add1
  split
  · exact h
  · rename_i c
    refine List.nodup_append.mpr ⟨h, List.nodup_cons.mpr ⟨List.not_mem_nil, List.nodup_nil⟩, fun a ha b hb => ?_⟩
    rw [List.mem_singleton.mp hb]
    exact fun e => c (e ▸ ha)
theorem add1_len {l : List Int} {i : Int} : (add1 l i).length ≤ l.length + 1 := by
  unfold add1
  split
  · omega
  · rw [List.length_append]; exact Nat.le_refl _
theorem addC_nodup {l : List Int} {p : Str × Ct} (h : l.Nodup) : (addC l p).Nodup := by
  unfold addC
  split
  · exact h
  · exact add1_nodup h
theorem addC_len {l : List Int} {p : Str × Ct} : (addC l p).length ≤ l.length + 1 := by
  unfold addC
  split
  · omega
  · exact add1_len
theorem intsL_nodup : ∀ {d : Dk} {l : List Int}, l.Nodup → (intsL l d).Nodup
  | [], _, h => h
  | p :: d, l, h => intsL_nodup (d := d) (l := addC l p) (addC_nodup h)
theorem intsL_len : ∀ (d : Dk) (l : List Int), (intsL l d).length ≤ l.length + d.length
  | [], l => by show l.length ≤ l.length + 0; omega
  | p :: d, l => by
    have := intsL_len d (addC l p)
    have h2 := addC_len (l := l) (p := p)
    show (intsL (addC l p) d).length ≤ l.length + (d.length + 1)
    omega
theorem add1_sub {l : List Int} {i : Int} : ∃ r, add1 l i = l ++ r := by
  unfold add1
  split
  · exact ⟨[], (List.append_nil _).symm⟩
  · exact ⟨_, rfl⟩
theorem addC_sub {l : List Int} {p : Str × Ct} : ∃ r, addC l p = l ++ r := by
  unfold addC
  split
  · exact ⟨[], (List.append_nil _).symm⟩
  · exact add1_sub
theorem intsL_sub : ∀ (d : Dk) (l : List Int), ∃ r, intsL l d = l ++ r
  | [], l => ⟨[], (List.append_nil _).symm⟩
  | p :: d, l => by
    obtain ⟨r, h⟩ := addC_sub (l := l) (p := p)
    obtain ⟨r2, h2⟩ := intsL_sub d (addC l p)
    exact ⟨r ++ r2, by show intsL (addC l p) d = _; rw [h2, h, List.append_assoc]⟩
theorem mem_add1 {l : List Int} {i j : Int} : j ∈ add1 l i ↔ j ∈ l ∨ j = i := by
  unfold add1
  split
  · rename_i c
    exact ⟨Or.inl, fun h => h.elim id fun e => e ▸ c⟩
  · rw [List.mem_append, List.mem_singleton]
theorem mem_intsL : ∀ {d : Dk} {l : List Int} {j : Int}, j ∈ intsL l d ↔ j ∈ l ∨ ∃ p ∈ d, p.2 = .inr j
  | [], l, j => by
    show j ∈ l ↔ _
    simp
  | (nm, .inl s) :: d, l, j => by
    show j ∈ intsL l d ↔ _
    rw [mem_intsL (d := d)]
    simp
  | (nm, .inr i) :: d, l, j => by
    show j ∈ intsL (add1 l i) d ↔ _
    rw [mem_intsL (d := d), mem_add1]
    simp only [List.mem_cons, exists_eq_or_imp, Sum.inr.injEq]
    constructor
    · rintro ((h | h) | h)
      · exact Or.inl h
      · exact Or.inr (Or.inl h.symm)
      · exact Or.inr (Or.inr h)
    · rintro (h | h | h)
      · exact Or.inl (Or.inl h)
      · exact Or.inl (Or.inr h.symm)
      · exact Or.inr h
theorem idx_app : ∀ {l : List Int} {i : Int} (r : List Int), i ∈ l → idx i (l ++ r) = idx i l
  | j :: l, i, r, h => by
    show (if j = i then 0 else idx i (l ++ r) + 1) = if j = i then 0 else idx i l + 1
    by_cases c : j = i
    · rw [if_pos c, if_pos c]
    · rw [if_neg c, if_neg c, idx_app r ((List.mem_cons.mp h).resolve_left fun e => c e.symm)]
theorem idx_get : ∀ {l : List Int} {i : Int}, i ∈ l → l[idx i l]? = some i
  | j :: l, i, h => by
    show (j :: l)[if j = i then 0 else idx i l + 1]? = some i
    by_cases c : j = i
    · rw [if_pos c, c]; rfl
    · rw [if_neg c]
      exact idx_get ((List.mem_cons.mp h).resolve_left fun e => c e.symm)
theorem idx_lt {l : List Int} {i : Int} (h : i ∈ l) : idx i l < l.length := (List.getElem?_eq_some_iff.mp (idx_get h)).1
theorem idx_end : ∀ {l : List Int} {i : Int}, i ∉ l → idx i (l ++ [i]) = l.length
  | [], i, _ => by show (if i = i then 0 else _) = 0; rw [if_pos rfl]
  | j :: l, i, h => by
    show (if j = i then 0 else idx i (l ++ [i]) + 1) = l.length + 1
    rw [if_neg (fun e : j = i => h (e ▸ List.mem_cons_self ..)), idx_end (fun z => h (List.mem_cons_of_mem _ z))]
/-! ### integers replaced one-to-one -/
def mapC (f : Int → Int) : Ct → Ct
  | .inl s => .inl s
  | .inr i => .inr (f i)
def mapD (f : Int → Int) (d : Dk) : Dk := d.map fun p => (p.1, mapC f p.2)
theorem add1_map {f : Int → Int} {l : List Int} {i : Int} (h : ∀ j ∈ l, f j = f i → j = i) : add1 (l.map f) (f i) = (add1 l i).map f := by
  unfold add1
  by_cases c : i ∈ l
  · rw [if_pos c, if_pos (List.mem_map.mpr ⟨i, c, rfl⟩)]
  · rw [if_neg c, if_neg, List.map_append]
    · rfl
    · intro z
      obtain ⟨j, hj, e⟩ := List.mem_map.mp z
      exact c (h j hj e ▸ hj)
theorem intsL_map {f : Int → Int} : ∀ {d : Dk} {l : List Int}, (∀ i ∈ intsL l d, ∀ j ∈ intsL l d, f i = f j → i = j) → intsL (l.map f) (mapD f d) = (intsL l d).map f
  | [], l, _ => rfl
  | (nm, .inl s) :: d, l, h => intsL_map (d := d) (l := l) h
  | (nm, .inr i) :: d, l, h => by
    have e : add1 (l.map f) (f i) = (add1 l i).map f := add1_map fun j hj e => h j (mem_intsL.mpr (Or.inl hj)) i (mem_intsL.mpr (Or.inr ⟨(nm, .inr i), List.mem_cons_self .., rfl⟩)) e
    show intsL (add1 (l.map f) (f i)) (mapD f d) = (intsL (add1 l i) d).map f
    rw [e]
    exact intsL_map (d := d) (l := add1 l i) h
theorem idx_map {f : Int → Int} : ∀ {l : List Int} {i : Int}, i ∈ l → (∀ j ∈ l, f j = f i → j = i) → idx (f i) (l.map f) = idx i l
  | j :: l, i, h, inj => by
    show (if f j = f i then 0 else idx (f i) (l.map f) + 1) = if j = i then 0 else idx i l + 1
    by_cases c : j = i
    · rw [if_pos c, if_pos (by rw [c])]
    · rw [if_neg c, if_neg fun e => c (inj j (List.mem_cons_self ..) e), idx_map ((List.mem_cons.mp h).resolve_left fun e => c e.symm) fun k hk => inj k (List.mem_cons_of_mem _ hk)]
/-- the pattern of a disk -/
def patD (d : Dk) : Dk := renD (intsL [] d) d
theorem pat_map {f : Int → Int} {d : Dk} (h : ∀ i ∈ intsL [] d, ∀ j ∈ intsL [] d, f i = f j → i = j) : intsL [] (mapD f d) = (intsL [] d).map f ∧ patD (mapD f d) = patD d := by
  have e : intsL [] (mapD f d) = (intsL [] d).map f := intsL_map (l := []) h
  refine ⟨e, ?_⟩
  unfold patD
  rw [e]
  unfold renD mapD
  rw [List.map_map]
  apply List.map_congr_left
  rintro ⟨nm, c⟩ hp
  cases c with
  | inl s => rfl
  | inr i =>
    have hi : i ∈ intsL [] d := mem_intsL.mpr (Or.inr ⟨_, hp, rfl⟩)
    show (nm, Sum.inr ((idx (f i) ((intsL [] d).map f) : Nat) : Int)) = (nm, Sum.inr ((idx i (intsL [] d) : Nat) : Int))
    rw [idx_map hi fun j hj => h j hj i hi]
theorem pat_is_map (d : Dk) : patD d = mapD (fun i => (idx i (intsL [] d) : Nat)) d := by
  unfold patD renD mapD
  apply List.map_congr_left
  rintro ⟨nm, c⟩ hp
  cases c <;> rfl
theorem idx_inj {l : List Int} {i j : Int} (hi : i ∈ l) (hj : j ∈ l) (e : ((idx i l : Nat) : Int) = (idx j l : Nat)) : i = j := by
  have h : idx i l = idx j l := by omega
  have h1 := idx_get hi
  rw [h, idx_get hj] at h1
  exact (Option.some.inj h1).symm
/-- a pattern is its own pattern -/
theorem pat_pat (d : Dk) : patD (patD d) = patD d ∧ intsL [] (patD d) = (intsL [] d).map fun i => ((idx i (intsL [] d) : Nat) : Int) := by
  have h := pat_map (f := fun i => ((idx i (intsL [] d) : Nat) : Int)) (d := d) fun i hi j hj e => idx_inj hi hj e
  rw [← pat_is_map] at h
  exact ⟨h.2, h.1⟩
theorem idx_range : ∀ {l : List Int}, l.Nodup → l.map (fun i => ((idx i l : Nat) : Int)) = (List.range l.length).map fun (k : Nat) => (k : Int)
  | [], _ => rfl
  | j :: l, h => by
    obtain ⟨h1, h2⟩ := List.nodup_cons.mp h
    have ih := idx_range h2
    rw [List.map_cons, List.length_cons, List.range_succ_eq_map, List.map_cons, List.map_map]
    have e0 : idx j (j :: l) = 0 := if_pos rfl
    rw [e0]
    congr 1
    have e1 : (List.range l.length).map ((fun (k : Nat) => (k : Int)) ∘ Nat.succ) = ((List.range l.length).map fun (k : Nat) => (k : Int)).map (· + 1) := by
      rw [List.map_map]
      apply List.map_congr_left
      intro k _
      show ((k + 1 : Nat) : Int) = (k : Int) + 1
      omega
    rw [e1, ← ih, List.map_map]
    apply List.map_congr_left
    intro i hi
    have hne : ¬ j = i := fun e => h1 (e ▸ hi)
    show ((if j = i then 0 else idx i l + 1 : Nat) : Int) = ((idx i l : Nat) : Int) + 1
    rw [if_neg hne]
    omega
end LL
/-! what can be shown: bounds of texts, contents, disks -/
namespace LL
open PySem PySem.Spec PyProof.Rows L2 DL
/-! ### what can be shown -/
def Pl (s : Str) : Prop := s.length ≤ 20 ∧ ∀ c ∈ s.cps.toList, c < 128
theorem pl_bd {s : Str} (h : Pl s) : Bd 202 0 (.str s) := bd_str (n := 20) (fun c hc => Nat.lt_of_lt_of_le (h.2 c hc) (by decide)) h.1
def CtOk : Ct → Prop
  | .inl s => Pl s
  | .inr i => i.natAbs < 10 ^ 45
def DkOk (d : Dk) : Prop := d.length ≤ 20 ∧ ∀ p ∈ d, Pl p.1 ∧ CtOk p.2
theorem ct_bd {c : Ct} (h : CtOk c) : Bd 202 0 (ctD c) := by
  cases c with
  | inl s => exact pl_bd h
  | inr i => exact (bd_intB h).mono (by decide) (Nat.le_refl _)
theorem ent_bd {p : Str × Ct} (h : Pl p.1 ∧ CtOk p.2) : Bd 412 1 (entD p) := bd_tuple (n := 202) (k := 0) (l := 2) (fun d hd => by
  rcases List.mem_cons.mp hd with e | e
  · rw [e]; exact pl_bd h.1
  · rw [List.mem_singleton.mp e]; exact ct_bd h.2) (Nat.le_refl _)
theorem dk_bd {d : Dk} (h : DkOk d) : Bd 8284 2 (diskD d) := bd_tuple (n := 412) (k := 1) (l := 20) (fun e he => by
  obtain ⟨p, hp, rfl⟩ := List.mem_map.mp he
  exact ent_bd (h.2 p hp)) (by rw [List.length_map]; exact h.1)
def strOf : PyData → Str
  | .str x => x
  | _ => ""
def plB : PyData → Bool
  | .str x => decide (x.length ≤ 20) && x.cps.toList.all fun c => decide (c < 128)
  | _ => false
theorem plB_of {d : PyData} (h : plB d = true) : ∃ s, d = .str s ∧ Pl s := by
  cases d with
  | str x =>
    unfold plB at h
    rw [Bool.and_eq_true, decide_eq_true_eq, List.all_eq_true] at h
    exact ⟨x, rfl, h.1, fun c hc => of_decide_eq_true (h.2 c hc)⟩
  | _ => cases h

theorem e6 : (10 : Int) ^ (6 : Int).toNat = 1000000 := rfl
theorem e39 : (10 : Int) ^ (39 : Int).toNat = 1000000000000000000000000000000000000000 := rfl
theorem e45 : (10 : Nat) ^ 45 = 1000000000000000000000000000000000000000000000 := rfl
theorem sortS_len (l : List Str) : (sortS l).length = l.length := (sortB_perm leS l).length_eq
theorem sortS_mem {l : List Str} {s : Str} : s ∈ sortS l ↔ s ∈ l := (sortB_perm leS l).mem_iff
end LL
/-! changes of a dict, and that two ways of making them agree -/
namespace LL
open PySem PySem.Spec PyProof.Rows L2 DL
def lkD : Dk → Str → Option Ct
  | [], _ => none
  | (k, c) :: r, x => if k = x then some c else lkD r x
def drD (d : Dk) (x : Str) : Dk := d.filter fun p => decide (p.1 ≠ x)
def ptD (d : Dk) (x : Str) (c : Ct) : Dk := if d.any (fun p => decide (p.1 = x)) = true then d.map (fun p => if p.1 = x then (p.1, c) else p) else d ++ [(x, c)]
def kvE (d : Dk) : List (Key × E) := d.map fun p => (.inr p.1, .dat (ctD p.2))
theorem inr_dec {x y : Str} : decide ((Sum.inr x : Key) = Sum.inr y) = decide (x = y) := by rw [Bool.eq_iff_iff, decide_eq_true_eq, decide_eq_true_eq]; exact ⟨Sum.inr.inj, congrArg _⟩
theorem kvE_len (d : Dk) : (kvE d).length = d.length := List.length_map ..
theorem kvE_look (x : Str) : ∀ d : Dk, lookD (kvE d) (.inr x) = (lkD d x).map fun c => .dat (ctD c)
  | [] => rfl
  | (k, c) :: r => by
    show (if (Sum.inr k : Key) = Sum.inr x then some (E.dat (ctD c)) else lookD (kvE r) (.inr x)) = (if k = x then some c else lkD r x).map _
    by_cases e : k = x
    · rw [if_pos e, if_pos (by rw [e])]; rfl
    · rw [if_neg e, if_neg fun h => e (Sum.inr.inj h), kvE_look x r]
theorem kvE_drop (d : Dk) (x : Str) : dropE (kvE d) (.inr x) = kvE (drD d x) := by
  unfold dropE kvE drD
  rw [List.filter_map]
  congr 1
  refine List.filter_congr fun p _ => ?_
  show decide (¬ (Sum.inr p.1 : Key) = Sum.inr x) = decide (¬ p.1 = x)
  rw [decide_not, decide_not, inr_dec]
theorem kvE_put (d : Dk) (x : Str) (c : Ct) : putE (kvE d) (.inr x) (.dat (ctD c)) = kvE (ptD d x c) := by
  have e : (kvE d).any (fun kv => decide (kv.1 = Sum.inr x)) = d.any (fun p => decide (p.1 = x)) := by
    unfold kvE
    rw [List.any_map]
    congr 1
    funext p
    exact inr_dec
  unfold putE ptD
  rw [e]
  by_cases h : d.any (fun p => decide (p.1 = x)) = true
  · rw [if_pos h, if_pos h]
    unfold kvE
    rw [List.map_map, List.map_map]
    refine List.map_congr_left fun p _ => ?_
    show (if (Sum.inr p.1 : Key) = Sum.inr x then _ else _) = (Sum.inr (if p.1 = x then (p.1, c) else p).1, E.dat (ctD (if p.1 = x then (p.1, c) else p).2))
    by_cases q : p.1 = x
    · rw [if_pos q, if_pos (by rw [q])]
    · rw [if_neg q, if_neg fun h => q (Sum.inr.inj h)]
  · rw [if_neg h, if_neg h]
    unfold kvE
    rw [List.map_append]
    rfl
inductive Ch where
  | put (a : Str) (c : Ct)
  | move (a b : Str)
  | rem (a : Str)
def chD : Ch → PyData
  | .put a c => .tuple [.str "put", .str a, ctD c]
  | .move a b => .tuple [.str "move", .str a, .str b]
  | .rem a => .tuple [.str "remove", .str a]
def mkA (d : Dk) : Ch → Dk
  | .put a c => ptD d a c
  | .rem a => drD d a
  | .move a b => match lkD d a with
    | none => drD (drD d a) b
    | some c => ptD (drD (drD d a) b) b c
def mkB (d : Dk) : Ch → Dk
  | .put a c => ptD d a c
  | .rem a => drD d a
  | .move a b => match lkD d a with
    | none => drD (drD d a) b
    | some c => ptD (drD d a) b c
def cnD (d : Dk) : Ch → Dk
  | .put a c => (a, c) :: drD d a
  | .rem a => drD d a
  | .move a b => match lkD d a with
    | none => drD (drD d a) b
    | some c => (b, c) :: drD (drD d a) b
section
variable {d : Dk} {a b : Str} {c : Ct}
theorem mvA_n (h : lkD d a = none) : mkA d (.move a b) = drD (drD d a) b := by show (match lkD d a with | none => drD (drD d a) b | some c => ptD (drD (drD d a) b) b c) = _; rw [h]
theorem mvA_s (h : lkD d a = some c) : mkA d (.move a b) = ptD (drD (drD d a) b) b c := by show (match lkD d a with | none => drD (drD d a) b | some c => ptD (drD (drD d a) b) b c) = _; rw [h]
theorem mvB_n (h : lkD d a = none) : mkB d (.move a b) = drD (drD d a) b := by show (match lkD d a with | none => drD (drD d a) b | some c => ptD (drD d a) b c) = _; rw [h]
theorem mvB_s (h : lkD d a = some c) : mkB d (.move a b) = ptD (drD d a) b c := by show (match lkD d a with | none => drD (drD d a) b | some c => ptD (drD d a) b c) = _; rw [h]
theorem mvC_n (h : lkD d a = none) : cnD d (.move a b) = drD (drD d a) b := by show (match lkD d a with | none => drD (drD d a) b | some c => (b, c) :: drD (drD d a) b) = _; rw [h]
theorem mvC_s (h : lkD d a = some c) : cnD d (.move a b) = (b, c) :: drD (drD d a) b := by show (match lkD d a with | none => drD (drD d a) b | some c => (b, c) :: drD (drD d a) b) = _; rw [h]
end
abbrev ksD (d : Dk) : List Str := d.map (·.1)
theorem lk_none : ∀ {d : Dk} {x : Str}, lkD d x = none ↔ x ∉ ksD d
  | [], x => by simp [lkD]
  | (k, c) :: r, x => by
    unfold lkD
    by_cases e : k = x
    · rw [if_pos e]
      simp [e]
    · rw [if_neg e, lk_none]
      simp [ksD, Ne.symm e, eq_comm, e]
theorem dr_absent {d : Dk} {x : Str} (h : x ∉ ksD d) : drD d x = d := by
  unfold drD
  rw [List.filter_eq_self]
  intro p hp
  exact decide_eq_true fun e => h (List.mem_map.mpr ⟨p, hp, e⟩)
theorem dr_ks {d : Dk} {x : Str} : x ∉ ksD (drD d x) := fun h => by
  obtain ⟨p, hp, e⟩ := List.mem_map.mp h
  exact of_decide_eq_true (List.mem_filter.mp hp).2 e
theorem dr_dr (d : Dk) (x : Str) : drD (drD d x) x = drD d x := dr_absent dr_ks
theorem dr_nd {d : Dk} {x : Str} (h : (ksD d).Nodup) : (ksD (drD d x)).Nodup := (List.Sublist.map _ (List.filter_sublist ..)).nodup h
theorem dr_perm {d d' : Dk} {x : Str} (p : d.Perm d') : (drD d x).Perm (drD d' x) := p.filter _
theorem dr_sub {d : Dk} {x : Str} {p : Str × Ct} (h : p ∈ drD d x) : p ∈ d := (List.mem_filter.mp h).1
theorem pt_perm {x : Str} {c : Ct} : ∀ {d : Dk}, (ksD d).Nodup → (ptD d x c).Perm ((x, c) :: drD d x)
  | [], _ => List.Perm.refl _
  | (k, c0) :: r, h => by
    obtain ⟨h1, h2⟩ := List.nodup_cons.mp h
    by_cases e : k = x
    · have hx : x ∉ ksD r := e ▸ h1
      have e1 : ptD ((k, c0) :: r) x c = (x, c) :: r := by
        unfold ptD
        rw [if_pos (by rw [List.any_cons, decide_eq_true (p := (k, c0).1 = x) e]; rfl), List.map_cons, if_pos (show (k, c0).1 = x from e)]
        rw [show (k, c0).1 = x from e]; refine congrArg (List.cons _) ?_
        conv => rhs; rw [← List.map_id r]
        refine List.map_congr_left fun p hp => ?_
        rw [if_neg fun q => hx (List.mem_map.mpr ⟨p, hp, q⟩)]
        rfl
      have e2 : drD ((k, c0) :: r) x = r := by
        unfold drD
        rw [List.filter_cons_of_neg (by simpa using e)]
        exact dr_absent hx
      rw [e1, e2]
    · have e1 : ptD ((k, c0) :: r) x c = (k, c0) :: ptD r x c := by
        unfold ptD
        rw [List.any_cons, decide_eq_false (show ¬ (k, c0).1 = x from e), Bool.false_or]
        by_cases q : r.any (fun p => decide (p.1 = x)) = true
        · rw [if_pos q, if_pos q, List.map_cons, if_neg (show ¬ (k, c0).1 = x from e)]
        · rw [if_neg q, if_neg q, List.cons_append]
      have e2 : drD ((k, c0) :: r) x = (k, c0) :: drD r x := by
        unfold drD
        rw [List.filter_cons_of_pos (by simpa using e)]
      rw [e1, e2]
      exact ((pt_perm h2).cons _).trans (List.Perm.swap _ _ _)
theorem cons_nd {d : Dk} {x : Str} {c : Ct} (h : (ksD d).Nodup) : (ksD ((x, c) :: drD d x)).Nodup := List.nodup_cons.mpr ⟨dr_ks, dr_nd h⟩
theorem lk_mem : ∀ {d : Dk} {x : Str} {c : Ct}, (ksD d).Nodup → (lkD d x = some c ↔ (x, c) ∈ d)
  | [], x, c, _ => by simp [lkD]
  | (k, c0) :: r, x, c, h => by
    obtain ⟨h1, h2⟩ := List.nodup_cons.mp h
    unfold lkD
    by_cases e : k = x
    · rw [if_pos e]
      constructor
      · intro q
        rw [← Option.some.inj q, e]
        exact List.mem_cons_self
      · intro q
        rcases List.mem_cons.mp q with q | q
        · rw [(Prod.mk.inj q).2]
        · exact absurd (List.mem_map.mpr ⟨_, q, e.symm⟩) h1
    · rw [if_neg e, lk_mem h2, List.mem_cons]
      exact ⟨Or.inr, fun q => q.resolve_left fun z => e (Prod.mk.inj z).1.symm⟩
theorem lk_perm {d d' : Dk} {x : Str} (p : d.Perm d') (h : (ksD d).Nodup) : lkD d x = lkD d' x := by
  have h' : (ksD d').Nodup := (p.map _).nodup_iff.mp h
  cases e : lkD d x with
  | some c => exact ((lk_mem h').mpr (p.mem_iff.mp ((lk_mem h).mp e))).symm
  | none =>
    refine (lk_none.mpr fun z => lk_none.mp e ?_).symm
    exact (p.map _).mem_iff.mpr z
theorem mkA_cn {d : Dk} (h : (ksD d).Nodup) : ∀ ch, (mkA d ch).Perm (cnD d ch)
  | .put a c => pt_perm h
  | .rem a => List.Perm.refl _
  | .move a b => by
    cases e : lkD d a with
    | none => rw [mvA_n e, mvC_n e]
    | some c =>
      rw [mvA_s e, mvC_s e]
      have q := pt_perm (x := b) (c := c) (dr_nd (x := b) (dr_nd (x := a) h))
      rw [dr_dr] at q
      exact q
theorem mkB_cn {d : Dk} (h : (ksD d).Nodup) : ∀ ch, (mkB d ch).Perm (cnD d ch)
  | .put a c => pt_perm h
  | .rem a => List.Perm.refl _
  | .move a b => by
    cases e : lkD d a with
    | none => rw [mvB_n e, mvC_n e]
    | some c => rw [mvB_s e, mvC_s e]; exact pt_perm (dr_nd h)
theorem cn_perm {d d' : Dk} (p : d.Perm d') (h : (ksD d).Nodup) : ∀ ch, (cnD d ch).Perm (cnD d' ch)
  | .put a c => (dr_perm p).cons _
  | .rem a => dr_perm p
  | .move a b => by
    have q := lk_perm (x := a) p h
    cases e : lkD d' a with
    | none => rw [mvC_n e, mvC_n (q.trans e)]; exact dr_perm (dr_perm p)
    | some c => rw [mvC_s e, mvC_s (q.trans e)]; exact (dr_perm (dr_perm p)).cons _
theorem cn_nd {d : Dk} (h : (ksD d).Nodup) : ∀ ch, (ksD (cnD d ch)).Nodup
  | .put a c => cons_nd h
  | .rem a => dr_nd h
  | .move a b => by
    cases e : lkD d a with
    | none => rw [mvC_n e]; exact dr_nd (dr_nd h)
    | some c => rw [mvC_s e]; exact cons_nd (dr_nd h)
theorem step_perm {d d' : Dk} (p : d.Perm d') (h : (ksD d).Nodup) (ch : Ch) : (mkA d ch).Perm (mkB d' ch) ∧ (ksD (mkA d ch)).Nodup :=
  ⟨((mkA_cn h ch).trans (cn_perm p h ch)).trans (mkB_cn ((p.map _).nodup_iff.mp h) ch).symm, ((mkA_cn h ch).map _).nodup_iff.mpr (cn_nd h ch)⟩
def ChOk : Ch → Prop
  | .put a c => Pl a ∧ CtOk c
  | .move a b => Pl a ∧ Pl b
  | .rem a => Pl a
def Ents (d : Dk) : Prop := ∀ p ∈ d, Pl p.1 ∧ CtOk p.2
theorem cn_ok {d : Dk} (h : Ents d) : ∀ {ch : Ch}, ChOk ch → Ents (cnD d ch)
  | .put a c, hc, p, hp => by
    rcases List.mem_cons.mp hp with e | e
    · rw [e]; exact hc
    · exact h p (dr_sub e)
  | .rem a, hc, p, hp => h p (dr_sub hp)
  | .move a b, hc, p, hp => by
    cases e : lkD d a with
    | none =>
      rw [mvC_n e] at hp
      exact h p (dr_sub (dr_sub hp))
    | some c =>
      rw [mvC_s e] at hp
      rcases List.mem_cons.mp hp with z | z
      · rw [z]
        refine ⟨hc.2, ?_⟩
        have : ∀ {d : Dk}, lkD d a = some c → ∃ p ∈ d, p.2 = c := by
          intro d
          induction d with
          | nil => intro q; cases q
          | cons p0 r ih =>
            intro q
            obtain ⟨k, c0⟩ := p0
            unfold lkD at q
            by_cases e : k = a
            · rw [if_pos e] at q
              exact ⟨_, List.mem_cons_self, Option.some.inj q⟩
            · rw [if_neg e] at q
              obtain ⟨p, hp, e2⟩ := ih q
              exact ⟨p, List.mem_cons_of_mem _ hp, e2⟩
        obtain ⟨p0, hp0, e0⟩ := this e
        rw [← e0]
        exact (h p0 hp0).2
      · exact h p (dr_sub (dr_sub z))
theorem cn_len {d : Dk} : ∀ ch, (cnD d ch).length ≤ d.length + 1
  | .put a c => Nat.succ_le_succ (List.length_filter_le ..)
  | .rem a => Nat.le_succ_of_le (List.length_filter_le ..)
  | .move a b => by
    have h1 : (drD d a).length ≤ d.length := List.length_filter_le ..
    have h2 : (drD (drD d a) b).length ≤ (drD d a).length := List.length_filter_le ..
    cases e : lkD d a with
    | none => rw [mvC_n e]; omega
    | some c => rw [mvC_s e, List.length_cons]; omega
/-- the sorted disk of a dict -/
def leK (a b : Str × Ct) : Bool := leS a.1 b.1
def soD (d : Dk) : Dk := sortB leK d
def itsOf (d : Dk) : Its := d.map fun p => (p.1, ctD p.2)
theorem ins_map {α β : Type} {le : α → α → Bool} {le' : β → β → Bool} {f : α → β} (h : ∀ a b, le' (f a) (f b) = le a b) (x : α) : ∀ l : List α, insB le' (f x) (l.map f) = (insB le x l).map f
  | [] => rfl
  | y :: l => by
    have ih := ins_map h x l
    unfold insB
    rw [List.map_cons]
    dsimp only
    rw [h]
    cases le x y with
    | true => rfl
    | false => rw [ih]; rfl
theorem sort_map {α β : Type} {le : α → α → Bool} {le' : β → β → Bool} {f : α → β} (h : ∀ a b, le' (f a) (f b) = le a b) : ∀ l : List α, sortB le' (l.map f) = (sortB le l).map f
  | [] => rfl
  | x :: l => by
    show insB le' (f x) (sortB le' (l.map f)) = (insB le x (sortB le l)).map f
    rw [sort_map h l, ins_map h]
theorem so_items (d : Dk) : (sortP (itsOf d)).map DL.prD = (soD d).map entD := by
  unfold sortP itsOf soD
  rw [sort_map (le := leK) (le' := leP) (f := fun p : Str × Ct => (p.1, ctD p.2)) (fun a b => rfl), List.map_map]
  rfl
def fA (d : Dk) (x : Str) : PyData := .tuple [.str x, match lkD d x with | some c => ctD c | none => .none]
theorem so_keys {d d' : Dk} (p : d.Perm d') (h : (ksD d).Nodup) : (sortS (ksD d)).map (fA d) = (soD d').map entD := by
  have e : ksD (soD d') = sortS (ksD d) := by
    refine sortB_uniq leS_tot leS_tr leS_anti (((sortB_perm leK d').map _).trans (p.symm.map _)) ?_
    exact List.pairwise_map.mpr (sortB_pw (fun a b => leS_tot a.1 b.1) (fun a b c => leS_tr a.1 b.1 c.1) d')
  rw [← e, List.map_map]
  refine List.map_congr_left fun q hq => ?_
  have hm : q ∈ d := p.mem_iff.mpr ((sortB_perm leK d').mem_iff.mp hq)
  have hl : lkD d q.1 = some q.2 := (lk_mem h).mpr hm
  show fA d q.1 = entD q
  unfold fA entD
  rw [hl]
theorem so_ok {d : Dk} (hl : d.length ≤ 20) (h : Ents d) : DkOk (soD d) := ⟨by rw [show (soD d).length = d.length from (sortB_perm leK d).length_eq]; exact hl, fun p hp => h p ((sortB_perm leK d).mem_iff.mp hp)⟩
end LL
/-! scripts as typed data; their execution, on a dict that is changed in one of two ways -/
namespace LL
open PySem PySem.Spec PyProof.Rows L2 DL
inductive Tst where
  | ex (a : Str)
  | same (a b : Str)
  | is (a t : Str)
inductive Op where
  | sync
  | flush (a : Str)
  | write (a t : Str)
  | copy (a b : Str)
  | rename (a b : Str)
  | delete (a : Str)
  | ite (t : Tst) (y n : List Op)
inductive En where
  | ch (c : Ch)
  | sync
  | flush (a : Str)
def tstD : Tst → PyData
  | .ex a => .tuple [.str "exists", .str a]
  | .same a b => .tuple [.str "same", .str a, .str b]
  | .is a t => .tuple [.str "is", .str a, .str t]
def enD : En → PyData
  | .ch c => chD c
  | .sync => .tuple [.str "sync"]
  | .flush a => .tuple [.str "flush", .str a]
mutual
def opD : Op → PyData
  | .sync => .tuple [.str "sync"]
  | .flush a => .tuple [.str "flush", .str a]
  | .write a t => .tuple [.str "write", .str a, .str t]
  | .copy a b => .tuple [.str "copy", .str a, .str b]
  | .rename a b => .tuple [.str "rename", .str a, .str b]
  | .delete a => .tuple [.str "delete", .str a]
  | .ite t y n => .tuple [.str "if", tstD t, .tuple (opsD y), .tuple (opsD n)]
def opsD : List Op → List PyData
  | [] => []
  | o :: r => opD o :: opsD r
end
mutual
def szO : Op → Nat
  | .ite _ y n => 1 + szL y + szL n
  | _ => 1
def szL : List Op → Nat
  | [] => 0
  | o :: r => szO o + szL r
end
mutual
def dpO : Op → Nat
  | .ite _ y n => 1 + max (dpL y) (dpL n)
  | _ => 0
def dpL : List Op → Nat
  | [] => 0
  | o :: r => max (dpO o) (dpL r)
end
theorem opsD_map : ∀ l : List Op, opsD l = l.map opD
  | [] => by rw [opsD]; rfl
  | o :: r => by rw [opsD, opsD_map r]; rfl
theorem sz_app : ∀ a b : List Op, szL (a ++ b) = szL a + szL b
  | [], b => by rw [szL, List.nil_append, Nat.zero_add]
  | o :: r, b => by rw [List.cons_append, szL, szL, sz_app r b]; omega
theorem dp_app : ∀ a b : List Op, dpL (a ++ b) = max (dpL a) (dpL b)
  | [], b => by rw [dpL, List.nil_append]; omega
  | o :: r, b => by rw [List.cons_append, dpL, dpL, dp_app r b]; omega
theorem sz_pos : ∀ o : Op, 1 ≤ szO o := fun o => by cases o <;> unfold szO <;> omega
theorem sz_len : ∀ l : List Op, l.length ≤ szL l
  | [] => Nat.zero_le _
  | o :: r => by
    have h1 := sz_len r
    have h2 := sz_pos o
    rw [szL, List.length_cons]
    omega
def chO (d : Dk) : Op → Option Ch
  | .write a t => some (.put a (.inl t))
  | .copy a b => (lkD d a).map (.put b)
  | .rename a b => (lkD d a).map fun _ => .move a b
  | .delete a => (lkD d a).map fun _ => .rem a
  | _ => none
def tsO (d : Dk) : Tst → Bool
  | .ex a => (lkD d a).isSome
  | .same a b => (lkD d a).isSome && decide (lkD d a = lkD d b)
  | .is a t => decide (lkD d a = some (.inl t))
abbrev RS := Dk × List En
def chS (mk : Dk → Ch → Dk) (s : RS) : Option Ch → RS
  | none => s
  | some c => (mk s.1 c, s.2 ++ [.ch c])
def stp (mk : Dk → Ch → Dk) (r : List Op → RS → RS) (s : RS) : Op → RS
  | .sync => (s.1, s.2 ++ [.sync])
  | .flush a => (s.1, s.2 ++ [.flush a])
  | .ite t y n => r (if tsO s.1 t = true then y else n) s
  | o => chS mk s (chO s.1 o)
def run (mk : Dk → Ch → Dk) : Nat → List Op → RS → RS
  | 0, _, s => s
  | n + 1, l, s => l.foldl (stp mk (run mk n)) s
/-! ### both ways of changing make the same entries -/
def RelS (s t : RS) : Prop := s.1.Perm t.1 ∧ (ksD s.1).Nodup ∧ s.2 = t.2
theorem lk_fun {d d' : Dk} (p : d.Perm d') (h : (ksD d).Nodup) : lkD d = lkD d' := funext fun x => lk_perm p h
theorem chO_perm {d d' : Dk} (p : d.Perm d') (h : (ksD d).Nodup) (o : Op) : chO d o = chO d' o := by
  unfold chO
  rw [lk_fun p h]
theorem tsO_perm {d d' : Dk} (p : d.Perm d') (h : (ksD d).Nodup) (t : Tst) : tsO d t = tsO d' t := by
  unfold tsO
  rw [lk_fun p h]
theorem chS_rel {s t : RS} (h : RelS s t) (c : Option Ch) : RelS (chS mkA s c) (chS mkB t c) := by
  obtain ⟨p, nd, e⟩ := h
  cases c with
  | none => exact ⟨p, nd, e⟩
  | some c =>
    obtain ⟨p', nd'⟩ := step_perm p nd c
    exact ⟨p', nd', by show s.2 ++ _ = t.2 ++ _; rw [e]⟩
theorem stp_rel {r r' : List Op → RS → RS} (hr : ∀ l s t, RelS s t → RelS (r l s) (r' l t)) {s t : RS} (h : RelS s t) (o : Op) : RelS (stp mkA r s o) (stp mkB r' t o) := by
  have ⟨p, nd, e⟩ := h
  have hc := chO_perm p nd o
  cases o with
  | sync => exact ⟨p, nd, by show s.2 ++ _ = t.2 ++ _; rw [e]⟩
  | flush a => exact ⟨p, nd, by show s.2 ++ _ = t.2 ++ _; rw [e]⟩
  | ite ts y n =>
    have ht := tsO_perm p nd ts
    show RelS (r (if tsO s.1 ts = true then y else n) s) (r' (if tsO t.1 ts = true then y else n) t)
    rw [ht]
    exact hr _ _ _ h
  | write a b => show RelS (chS mkA s (chO s.1 _)) (chS mkB t (chO t.1 _)); rw [hc]; exact chS_rel h _
  | copy a b => show RelS (chS mkA s (chO s.1 _)) (chS mkB t (chO t.1 _)); rw [hc]; exact chS_rel h _
  | rename a b => show RelS (chS mkA s (chO s.1 _)) (chS mkB t (chO t.1 _)); rw [hc]; exact chS_rel h _
  | delete a => show RelS (chS mkA s (chO s.1 _)) (chS mkB t (chO t.1 _)); rw [hc]; exact chS_rel h _
theorem fold_rel {r r' : List Op → RS → RS} (hr : ∀ l s t, RelS s t → RelS (r l s) (r' l t)) : ∀ (l : List Op) {s t : RS}, RelS s t → RelS (l.foldl (stp mkA r) s) (l.foldl (stp mkB r') t)
  | [], _, _, h => h
  | o :: l, s, t, h => fold_rel hr l (stp_rel hr h o)
theorem run_rel : ∀ (n : Nat) (l : List Op) (s t : RS), RelS s t → RelS (run mkA n l s) (run mkB n l t)
  | 0, _, _, _, h => h
  | n + 1, l, _, _, h => fold_rel (run_rel n) l h
/-! ### entries are added behind -/
theorem stp_app {mk : Dk → Ch → Dk} {r : List Op → RS → RS} (hr : ∀ l d es, r l (d, es) = ((r l (d, [])).1, es ++ (r l (d, [])).2)) (d : Dk) (es : List En) (o : Op) : stp mk r (d, es) o = ((stp mk r (d, []) o).1, es ++ (stp mk r (d, []) o).2) := by
  have h0 : ∀ c, chS mk (d, es) c = ((chS mk (d, []) c).1, es ++ (chS mk (d, []) c).2) := fun c => by
    cases c with
    | none => show (d, es) = (d, es ++ []); rw [List.append_nil]
    | some c => rfl
  cases o with
  | sync => rfl
  | flush a => rfl
  | ite t y n => exact hr _ _ _
  | write a b => exact h0 (chO d (.write a b))
  | copy a b => exact h0 (chO d (.copy a b))
  | rename a b => exact h0 (chO d (.rename a b))
  | delete a => exact h0 (chO d (.delete a))
theorem fold_app {mk : Dk → Ch → Dk} {r : List Op → RS → RS} (hr : ∀ l d es, r l (d, es) = ((r l (d, [])).1, es ++ (r l (d, [])).2)) : ∀ (l : List Op) (d : Dk) (es : List En), l.foldl (stp mk r) (d, es) = ((l.foldl (stp mk r) (d, [])).1, es ++ (l.foldl (stp mk r) (d, [])).2)
  | [], d, es => by show (d, es) = (d, es ++ []); rw [List.append_nil]
  | o :: l, d, es => by
    rw [List.foldl_cons, List.foldl_cons, stp_app hr d es o]
    generalize stp mk r (d, []) o = s
    obtain ⟨d', e'⟩ := s
    rw [fold_app hr l d' (es ++ e'), fold_app hr l d' e', List.append_assoc]
theorem run_app {mk : Dk → Ch → Dk} : ∀ (n : Nat) (l : List Op) (d : Dk) (es : List En), run mk n l (d, es) = ((run mk n l (d, [])).1, es ++ (run mk n l (d, [])).2)
  | 0, _, d, es => by show (d, es) = (d, es ++ []); rw [List.append_nil]
  | n + 1, l, d, es => fold_app (run_app n) l d es
/-! ### bounds -/
def OkT : Tst → Prop
  | .ex a => Pl a
  | .same a b => Pl a ∧ Pl b
  | .is a t => Pl a ∧ Pl t
mutual
def OkO : Op → Prop
  | .sync => True
  | .flush a => Pl a
  | .write a t => Pl a ∧ Pl t
  | .copy a b => Pl a ∧ Pl b
  | .rename a b => Pl a ∧ Pl b
  | .delete a => Pl a
  | .ite t y n => OkT t ∧ OkL y ∧ OkL n
def OkL : List Op → Prop
  | [] => True
  | o :: r => OkO o ∧ OkL r
end
def OkE : En → Prop
  | .ch c => ChOk c
  | .sync => True
  | .flush a => Pl a
theorem okL_app : ∀ {a b : List Op}, OkL a → OkL b → OkL (a ++ b)
  | [], _, _, h => h
  | o :: r, b, h, h' => by
    rw [OkL] at h
    rw [List.cons_append, OkL]
    exact ⟨h.1, okL_app h.2 h'⟩
def SOk (s : RS) : Prop := (ksD s.1).Nodup ∧ Ents s.1 ∧ ∀ e ∈ s.2, OkE e
theorem lk_ent : ∀ {d : Dk} {a : Str} {c : Ct}, lkD d a = some c → ∃ p ∈ d, p.1 = a ∧ p.2 = c
  | [], a, c, h => by cases h
  | (k, c0) :: r, a, c, h => by
    unfold lkD at h
    by_cases e : k = a
    · rw [if_pos e] at h
      exact ⟨_, List.mem_cons_self, e, Option.some.inj h⟩
    · rw [if_neg e] at h
      obtain ⟨p, hp, q⟩ := lk_ent h
      exact ⟨p, List.mem_cons_of_mem _ hp, q⟩
theorem chO_ok {d : Dk} (h : Ents d) {o : Op} (ho : OkO o) {c : Ch} (e : chO d o = some c) : ChOk c := by
  cases o with
  | write a t => cases e; rw [OkO] at ho; exact ho
  | copy a b =>
    rw [OkO] at ho
    obtain ⟨x, hx, rfl⟩ := Option.map_eq_some_iff.mp e
    obtain ⟨p, hp, _, rfl⟩ := lk_ent hx
    exact ⟨ho.2, (h p hp).2⟩
  | rename a b =>
    rw [OkO] at ho
    obtain ⟨x, hx, rfl⟩ := Option.map_eq_some_iff.mp e
    exact ho
  | delete a =>
    rw [OkO] at ho
    obtain ⟨x, hx, rfl⟩ := Option.map_eq_some_iff.mp e
    exact ho
  | sync => cases e
  | flush a => cases e
  | ite t y n => cases e
def GoodMk (mk : Dk → Ch → Dk) : Prop := ∀ d c, (ksD d).Nodup → (mk d c).length ≤ d.length + 1 ∧ (ksD (mk d c)).Nodup ∧ (Ents d → ChOk c → Ents (mk d c))
theorem good_A : GoodMk mkA := fun d c h => ⟨by rw [(mkA_cn h c).length_eq]; exact cn_len c, ((mkA_cn h c).map _).nodup_iff.mpr (cn_nd h c), fun he hc p hp => cn_ok he hc p ((mkA_cn h c).mem_iff.mp hp)⟩
theorem good_B : GoodMk mkB := fun d c h => ⟨by rw [(mkB_cn h c).length_eq]; exact cn_len c, ((mkB_cn h c).map _).nodup_iff.mpr (cn_nd h c), fun he hc p hp => cn_ok he hc p ((mkB_cn h c).mem_iff.mp hp)⟩
section
variable {mk : Dk → Ch → Dk} (hk : GoodMk mk)
include hk
theorem chS_ok {s : RS} (h : SOk s) {c : Option Ch} (hc : ∀ x, c = some x → ChOk x) : SOk (chS mk s c) := by
  cases c with
  | none => exact h
  | some c =>
    have h1 := hc c rfl
    refine ⟨(hk _ c h.1).2.1, (hk _ c h.1).2.2 h.2.1 h1, fun e he => ?_⟩
    rcases List.mem_append.mp he with q | q
    · exact h.2.2 e q
    · rw [List.mem_singleton.mp q]; exact h1
omit hk in
theorem add_ok {s : RS} (h : SOk s) {e : En} (he : OkE e) : SOk (s.1, s.2 ++ [e]) := ⟨h.1, h.2.1, fun x hx => by
  rcases List.mem_append.mp hx with q | q
  · exact h.2.2 x q
  · rw [List.mem_singleton.mp q]; exact he⟩
theorem stp_ok {r : List Op → RS → RS} (hr : ∀ l s, OkL l → SOk s → SOk (r l s)) {s : RS} (h : SOk s) {o : Op} (ho : OkO o) : SOk (stp mk r s o) := by
  have hc : ∀ x, chO s.1 o = some x → ChOk x := fun x e => chO_ok h.2.1 ho e
  cases o with
  | sync => exact add_ok h True.intro
  | flush a => exact add_ok h (by rw [OkO] at ho; exact ho)
  | ite t y n =>
    rw [OkO] at ho
    show SOk (r (if tsO s.1 t = true then y else n) s)
    split
    · exact hr _ _ ho.2.1 h
    · exact hr _ _ ho.2.2 h
  | write a b => exact chS_ok hk h hc
  | copy a b => exact chS_ok hk h hc
  | rename a b => exact chS_ok hk h hc
  | delete a => exact chS_ok hk h hc
theorem foldS_ok {r : List Op → RS → RS} (hr : ∀ l s, OkL l → SOk s → SOk (r l s)) : ∀ (l : List Op) {s : RS}, OkL l → SOk s → SOk (l.foldl (stp mk r) s)
  | [], _, _, h => h
  | o :: l, s, hl, h => by
    rw [OkL] at hl
    exact foldS_ok hr l hl.2 (stp_ok hk hr h hl.1)
theorem run_ok : ∀ (n : Nat) (l : List Op) (s : RS), OkL l → SOk s → SOk (run mk n l s)
  | 0, _, _, _, h => h
  | n + 1, l, _, hl, h => foldS_ok hk (run_ok n) l hl h
end
/-! ### lengths -/
def Small (n : Nat) (s s' : RS) : Prop := s'.1.length ≤ s.1.length + n ∧ s'.2.length ≤ s.2.length + n
section
variable {mk : Dk → Ch → Dk} (hk : GoodMk mk)
include hk
theorem chS_small {s : RS} (h : (ksD s.1).Nodup) (c : Option Ch) : Small 1 s (chS mk s c) ∧ (ksD (chS mk s c).1).Nodup := by
  cases c with
  | none => exact ⟨⟨Nat.le_succ _, Nat.le_succ _⟩, h⟩
  | some c => exact ⟨⟨(hk s.1 c h).1, by show (s.2 ++ [_]).length ≤ _; rw [List.length_append]; exact Nat.le_refl _⟩, (hk s.1 c h).2.1⟩
omit hk in
theorem add_small {s : RS} (e : En) : Small 1 s (s.1, s.2 ++ [e]) := ⟨Nat.le_succ _, by show (s.2 ++ [_]).length ≤ _; rw [List.length_append]; exact Nat.le_refl _⟩
theorem stp_small {r : List Op → RS → RS} (hr : ∀ l s, (ksD s.1).Nodup → Small (szL l) s (r l s) ∧ (ksD (r l s).1).Nodup) {s : RS} (h : (ksD s.1).Nodup) (o : Op) : Small (szO o) s (stp mk r s o) ∧ (ksD (stp mk r s o).1).Nodup := by
  cases o with
  | sync => rw [szO]; exact ⟨add_small _, h⟩; all_goals (intros; contradiction)
  | flush a => rw [szO]; exact ⟨add_small _, h⟩; all_goals (intros; contradiction)
  | ite t y n =>
    rw [szO]
    show Small _ s (r (if tsO s.1 t = true then y else n) s) ∧ (ksD (r (if tsO s.1 t = true then y else n) s).1).Nodup
    split
    · obtain ⟨⟨h1, h2⟩, h3⟩ := hr y s h
      exact ⟨⟨by omega, by omega⟩, h3⟩
    · obtain ⟨⟨h1, h2⟩, h3⟩ := hr n s h
      exact ⟨⟨by omega, by omega⟩, h3⟩
  | write a b => rw [szO]; exact chS_small hk h _; all_goals (intros; contradiction)
  | copy a b => rw [szO]; exact chS_small hk h _; all_goals (intros; contradiction)
  | rename a b => rw [szO]; exact chS_small hk h _; all_goals (intros; contradiction)
  | delete a => rw [szO]; exact chS_small hk h _; all_goals (intros; contradiction)
theorem fold_small {r : List Op → RS → RS} (hr : ∀ l s, (ksD s.1).Nodup → Small (szL l) s (r l s) ∧ (ksD (r l s).1).Nodup) : ∀ (l : List Op) {s : RS}, (ksD s.1).Nodup → Small (szL l) s (l.foldl (stp mk r) s) ∧ (ksD (l.foldl (stp mk r) s).1).Nodup
  | [], s, h => by rw [szL]; exact ⟨⟨Nat.le_refl _, Nat.le_refl _⟩, h⟩
  | o :: l, s, h => by
    obtain ⟨⟨h1, h2⟩, h3⟩ := stp_small hk hr h o
    obtain ⟨⟨h4, h5⟩, h6⟩ := fold_small hr l h3
    rw [szL]
    exact ⟨⟨by rw [List.foldl_cons]; omega, by rw [List.foldl_cons]; omega⟩, h6⟩
theorem run_small : ∀ (n : Nat) (l : List Op) (s : RS), (ksD s.1).Nodup → Small (szL l) s (run mk n l s) ∧ (ksD (run mk n l s).1).Nodup
  | 0, _, s, h => ⟨⟨Nat.le_add_right .., Nat.le_add_right ..⟩, h⟩
  | n + 1, l, s, h => fold_small hk (run_small n) l h
end
theorem sz_drop {l : List Op} {i : Nat} {x : Op} (h : l[i]? = some x) : szL (l.drop i) = szO x + szL (l.drop (i + 1)) := by
  obtain ⟨hl, e⟩ := List.getElem?_eq_some_iff.mp h
  rw [List.drop_eq_getElem_cons hl, e, szL]
theorem dp_mem : ∀ {l : List Op} {x : Op}, x ∈ l → dpO x ≤ dpL l
  | o :: r, x, h => by
    rw [dpL]
    rcases List.mem_cons.mp h with q | q
    · rw [q]; exact Nat.le_max_left _ _
    · exact Nat.le_trans (dp_mem q) (Nat.le_max_right _ _)
theorem sz_mem : ∀ {l : List Op} {x : Op}, x ∈ l → szO x ≤ szL l
  | o :: r, x, h => by
    rw [szL]
    rcases List.mem_cons.mp h with q | q
    · rw [q]; omega
    · have := sz_mem q; omega
end LL
/-! a change made by the program, and by the law, on a dict anywhere in the ledger -/
-- the evaluator
open PySem PySem.Spec PyProof.Rows L2 DL
local macro_rules
  | `(tactic| simp (disch := $d) only [xX, $as,*]) => `(tactic| simp -implicitDefEqProofs (disch := $d) only [↓xVar, ↓xC, ↓pOp, ↓kP2, ↓kP3, ↓kP3', ↓xOp, ↓pB, ↓xB, ↓xTf, ↓kAnd, ↓xAnd, ↓kOr, ↓xOr, ↓kNot, ↓xNot, ↓xYes, ↓kAndV1, ↓kAndV, ↓xAndV, ↓kOrV1, ↓kOrV, ↓xOrV, ↓pNotV, ↓xNotV, ↓kIf, ↓xIf, ↓pNeg, ↓xNeg, ↓kCh3, ↓kCh2, ↓kCh1, ↓kCh0, ↓xChain, ↓xNil, ↓pCons, ↓kCons, ↓xCons, ↓pTup, ↓xTup, ↓pLst, ↓xLst, ↓pLstM, ↓xLstM, ↓xNext, ↓xSeq, ↓xBreak, ↓xCont, ↓kDrop, ↓xDrop, ↓kRet, ↓xRet, ↓xRetN, ↓kIfS, ↓xIfS, ↓xgName, ↓xgNil, ↓xgCons, ↓kgTup, ↓xgTup, ↓kNx, ↓kAsg, ↓xAsg, ↓kPar, ↓xPar, ↓kPar3, ↓xPar3, ↓pAug, ↓kAug, ↓xAug, ↓pIx, ↓xIx, ↓xNoPart, ↓pPart, ↓xPart, ↓pSl, ↓kSl2, ↓kSl1, ↓xSl, ↓pRev, ↓xRev, ↓pRevM, ↓xRevM, ↓pBut0, ↓xBut0, ↓pLstR, ↓xLstR, ↓pCB, ↓xCB, ↓pIsi, ↓xIsi, ↓pApp, ↓kApp, ↓xApp, ↓pPop, ↓xPop, ↓pExt, ↓kExt, ↓xExt, ↓kgSub2, ↓kgSub1, ↓xgSub, ↓xNewD, ↓xNewC, ↓pGet1, ↓kGet1, ↓xGet1, ↓pGet2, ↓kGet2, ↓xGet2, ↓pPop2, ↓kPop2, ↓xPop2, ↓pListD, ↓xListD, ↓pM0, ↓xM0, ↓pM1, ↓kM1', ↓kM1, ↓xM1, ↓xpNil, ↓ppCons, ↓kpCons2, ↓kpCons1, ↓xpCons, ↓pDisp, ↓xDisp, ↓piA, ↓xiA, ↓piS, ↓xiS, ↓piR1, ↓xiR1, ↓piR2, ↓xiR2, ↓piRv1, ↓xiRv1, ↓piEn, ↓xiEn, ↓kFor, ↓xFor, ↓xWhile, ↓kLc3, ↓kLcE, ↓kLcN, ↓kLc2, ↓kLc1, ↓pLcEnd, ↓kLc, ↓xLc, ↓xCallN, ↓kCallA, ↓xCallA, ↓kCallK', ↓kCallK, ↓xCallK, ↓kDc4, ↓kDc3, ↓kDcE, ↓kDcN, ↓kDc2, ↓kDc1, ↓pDcEnd, ↓kDc, ↓xDc, ↓pIdx, ↓kIdx, ↓xIdx, ↓pDictP, ↓xDictP, ↓xCallT, ↓xFrz, ↓piEnA, ↓xiEnA, ↓kgTupS, ↓xgTupS, ↓pSortD, ↓xSortD, ↓pSortIt, ↓xSortIt, ↓List.take_succ_cons, ↓List.drop_succ_cons, ↓piZipSA, ↓xiZipSA, ↓seq2_l, ↓seq2_t, ↓pNegB, ↓xNegB, ↓pGet1A, ↓kGet1A, ↓xGet1A, ↓pAddM, ↓xAddM, ↓pRevA, ↓xRevA, ↓pFld, ↓xFld, ↓pFldS, ↓kFldS, ↓xFldS, ↓kMeth, ↓xMeth, ↓pMake, ↓kMake, ↓xMake, ↓pInD, ↓xInD, ↓pUpd, ↓kUpd, ↓xUpd, ↓pDispM, ↓xDispM, ↓xFrzV, ↓slotL, rb_ok, rb_ex, xg_true, xif_true, xif_false, xo_some, sb_nx, sb_rt, sb_bk, sb_ct, sb_ex, fb_nx, fb_ct, fb_bk, fb_rt, fb_ex, kNf, gcM_none, gcN, fDef_eq, fEnd_nx, fEnd_rt, fEnd_ex, gD_dat, gI_int, gS_str, gB_bool, boolX_b, bool1X_b, tupX_t, asX_dat, asX_loc, datsX_nil, datsX_cons, datsX_map, Option.map_some, Option.bind_some, og_true, op2X, ng_true, ng_false, startG, List.map_cons, List.map_nil, List.length_cons, List.length_nil, Nat.zero_add, Nat.reduceAdd, Nat.reduceSub, List.replicate_succ, List.replicate_zero, List.cons_append, List.nil_append, List.getElem?_cons_zero, List.getElem?_cons_succ, List.set_cons_zero, List.set_cons_succ, wipeG, List.take_zero, List.drop_zero, decide_true, Bool.and_true, Bool.true_and, Bool.not_true, Bool.not_false, asX_l, ixX_l, slX_l, locL_l, locD_l, setX_l, isDX_l, isDX_d, dicX_l, keysX_l, lstX_l, lstX_list, isLX_l, isLDX_l, isLst_l, isLst_list, intX_i, keyX_i, keyX_s, atI_0, atI_1, atI_2, atI_3, ixN_32, ixN_31, ixN_30, dapp, ixX_list, ixX_tup, ixX_str, slX_list, slX_tup, slX_str, slX_scr, dicX_dict, xg_dec, og_dec, og_dec2, yAdd, ySub, yMul_int, yMul_list, yMul_str, yMod_int, yDiv_int, yPow_int, yEqN_nn, yLt, yLe, yGt, yGe, yEqN_int, yEqN_str, yEqN_bool, yEqN_cells, yIsN, yLen, yList, yTuple, yInt, asXs_nil, asXs_one, asXs_two, yUpper, yLower, yIn_str, seqX_l, seqX_t, intsR1_1, intsR2_2, ins_none_str, ins_none_int, ins_none_bool, ins_none_tuple, ins_none_list, ins_none_dict, ins_bool_str, ins_bool_int, ins_bool_bool, ins_bool_tuple, ins_bool_list, ins_bool_dict, ins_int_str, ins_int_int, ins_int_bool, ins_int_tuple, ins_int_list, ins_int_dict, ins_str_str, ins_str_int, ins_str_bool, ins_str_tuple, ins_str_list, ins_str_dict, ins_list_str, ins_list_int, ins_list_bool, ins_list_tuple, ins_list_list, ins_list_dict, ins_tuple_str, ins_tuple_int, ins_tuple_bool, ins_tuple_tuple, ins_tuple_list, ins_tuple_dict, ins_dict_str, ins_dict_int, ins_dict_bool, ins_dict_tuple, ins_dict_list, ins_dict_dict, isn_none, isn_bool, isn_int, isn_str, isn_list, isn_tuple, gK_01, gK_02, gK_02s, gK_11, gK_03a, gK_03b, gK_03c, gK_03d, gK_03e, gK_03f, seq1_l, seq1_t, Option.isSome_some, strX_s, addLX_l, yEqT_t0, yEqT_ii, yEqT_bi, yAddB, ySubB, yStrB, numX, revX_t, revX_d, revX_l, insX_l, dictX1, kvX, if_true, Option.isNone_none, Option.isNone_some, $as,*])
local macro_rules
  | `(tactic| simp (disch := $d) only [xX]) => `(tactic| simp (disch := $d) only [xX, xg_true])
  | `(tactic| simp only [xX]) => `(tactic| simp (disch := fail) only [xX, xg_true])
  | `(tactic| simp only [xX, $as,*]) => `(tactic| simp (disch := fail) only [xX, $as,*])
-- the evaluator
namespace LL
open PySem PySem.Spec PyProof.Rows L2 DL
theorem wRP : decide (("remove" : Str) = "put") = false := by decide +kernel
theorem wRM : decide (("remove" : Str) = "move") = false := by decide +kernel
theorem wMP : decide (("move" : Str) = "put") = false := by decide +kernel
theorem ctD_ne (c : Ct) : DL.isNon (ctD c) = false := by cases c <;> rfl
theorem dr_len (d : Dk) (x : Str) : (drD d x).length ≤ d.length := List.length_filter_le ..
theorem popD_n {m : Mm} {k : Nat} {d : Dk} {x : Str} {w : E} (h : lkD d x = none) : popX m k (kvE d) (.inr x) w = .ok w m := popX_none (by rw [kvE_look, h]; rfl)
theorem popD_s {m : Mm} {k : Nat} {d : Dk} {x : Str} {w : E} {c : Ct} (h : lkD d x = some c) : popX m k (kvE d) (.inr x) w = .ok (.dat (ctD c)) (m.set k (.dic (kvE (drD d x)))) := by
  rw [popX_some (v := .dat (ctD c)) (by rw [kvE_look, h]; rfl), kvE_drop]
theorem cut43 (a b c d : PyData) : cutD [a, b, c, d] none (some 3) = [a, b, c] := rfl
theorem cut33 (a b c : PyData) : cutD [a, b, c] none (some 3) = [a, b, c] := rfl
theorem get_set {m : Mm} {k : Nat} {y : OD} (h : m[k]? = some y) (x : OD) : (m.set k x)[k]? = some x := by
  have hl := (List.getElem?_eq_some_iff.mp h).1
  rw [List.getElem?_set_self hl]
theorem set_same {m : Mm} {k : Nat} {y : OD} (h : m[k]? = some y) : m.set k y = m := by
  obtain ⟨hl, e⟩ := List.getElem?_eq_some_iff.mp h
  rw [← e]
  exact List.set_getElem_self hl
section
variable {m : Mm} {k : Nat} {d : Dk} (hm : m[k]? = some (.dic (kvE d))) (hd : d.length ≤ 1000)
include hm hd
theorem make_ok (ch : Ch) : x_make_change [.loc k, .dat (chD ch)] m = .ok (.dat .none) (m.set k (.dic (kvE (mkA d ch)))) := by
  have hz := szl
  have hs1 : ∀ x y, (kvE (drD (drD d x) y)).length < sizeLine := fun x y => by rw [kvE_len]; have h1 := dr_len (drD d x) y; have h2 := dr_len d x; omega
  have hs2 : (kvE d).length < sizeLine := by rw [kvE_len]; omega
  have hg := get_set hm
  unfold x_make_change y_make_change
  cases ch with
  | put a c =>
    unfold chD
    simp (disch := first | exact hs2 | first | omega | (simp only [List.length_cons, List.length_nil, Int.reduceToNat]; omega)) only [xX, hm, cut43, cut33, kvE_put]
    rfl
  | rem a =>
    unfold chD
    cases hl : lkD d a with
    | none =>
      have hd0 : drD d a = d := dr_absent (lk_none.mp hl)
      have e : mkA d (.rem a) = d := hd0
      simp (disch := first | exact hs2 | first | omega | (simp only [List.length_cons, List.length_nil, Int.reduceToNat]; omega)) only [xX, hm, cut43, cut33, popD_n hl, Option.map_none, e, wRP, wRM, set_same hm]
    | some c =>
      have e : mkA d (.rem a) = drD d a := rfl
      simp (disch := first | exact hs2 | first | omega | (simp only [List.length_cons, List.length_nil, Int.reduceToNat]; omega)) only [xX, hm, cut43, cut33, popD_s hl, Option.map_some, kvE_drop, e, wRP, wRM]
  | move a b =>
    unfold chD
    cases hl : lkD d a with
    | none =>
      have hd0 : drD d a = d := dr_absent (lk_none.mp hl)
      rw [mvA_n hl, hd0]
      cases hb : lkD d b with
      | none =>
        rw [dr_absent (lk_none.mp hb), set_same hm]
        simp (disch := first | exact hs2 | first | omega | (simp only [List.length_cons, List.length_nil, Int.reduceToNat]; omega)) only [xX, hm, cut43, cut33, popD_n hl, popD_n hb, Option.map_none, wMP]
      | some c =>
        simp (disch := first | exact hs2 | first | omega | (simp only [List.length_cons, List.length_nil, Int.reduceToNat]; omega)) only [xX, hm, cut43, cut33, popD_n hl, popD_s hb, Option.map_none, Option.map_some, kvE_drop, wMP]
    | some c =>
      rw [mvA_s hl]
      cases hb : lkD (drD d a) b with
      | none =>
        have h1 := hs1 a b
        rw [dr_absent (lk_none.mp hb)] at h1 ⊢
        simp (disch := first | exact h1 | first | omega | (simp only [List.length_cons, List.length_nil, Int.reduceToNat]; omega)) only [xX, hm, hg, List.set_set, cut43, cut33, popD_s hl, popD_n hb, Option.map_none, Option.map_some, kvE_drop, kvE_put, ctD_ne, wMP]
      | some c2 =>
        have h1 := hs1 a b
        simp (disch := first | exact h1 | first | omega | (simp only [List.length_cons, List.length_nil, Int.reduceToNat]; omega)) only [xX, hm, hg, List.set_set, cut43, cut33, popD_s hl, popD_s hb, Option.map_none, Option.map_some, kvE_drop, kvE_put, ctD_ne, wMP]
theorem lmake_ok (ch : Ch) : x_law_make [.loc k, .dat (chD ch)] m = .ok (.dat .none) (m.set k (.dic (kvE (mkB d ch)))) := by
  have hz := szl
  have hs1 : ∀ x, (kvE (drD d x)).length < sizeLine := fun x => by rw [kvE_len]; have h2 := dr_len d x; omega
  have hs2 : (kvE d).length < sizeLine := by rw [kvE_len]; omega
  have hg := get_set hm
  unfold x_law_make y_law_make
  cases ch with
  | put a c =>
    unfold chD
    simp (disch := first | exact hs2 | first | omega | (simp only [List.length_cons, List.length_nil, Int.reduceToNat]; omega)) only [xX, hm, cut43, cut33, kvE_put]
    rfl
  | rem a =>
    unfold chD
    cases hl : lkD d a with
    | none =>
      have hd0 : drD d a = d := dr_absent (lk_none.mp hl)
      have e : mkB d (.rem a) = d := hd0
      simp (disch := first | exact hs2 | first | omega | (simp only [List.length_cons, List.length_nil, Int.reduceToNat]; omega)) only [xX, hm, cut43, cut33, popD_n hl, Option.map_none, e, wRP, wRM, set_same hm]
    | some c =>
      have e : mkB d (.rem a) = drD d a := rfl
      simp (disch := first | exact hs2 | first | omega | (simp only [List.length_cons, List.length_nil, Int.reduceToNat]; omega)) only [xX, hm, cut43, cut33, popD_s hl, Option.map_some, kvE_drop, e, wRP, wRM, ctD_ne]
  | move a b =>
    unfold chD
    cases hl : lkD d a with
    | none =>
      have hd0 : drD d a = d := dr_absent (lk_none.mp hl)
      rw [mvB_n hl, hd0]
      cases hb : lkD d b with
      | none =>
        rw [dr_absent (lk_none.mp hb), set_same hm]
        simp (disch := first | exact hs2 | first | omega | (simp only [List.length_cons, List.length_nil, Int.reduceToNat]; omega)) only [xX, hm, cut43, cut33, popD_n hl, popD_n hb, Option.map_none, wMP]
      | some c =>
        simp (disch := first | exact hs2 | first | omega | (simp only [List.length_cons, List.length_nil, Int.reduceToNat]; omega)) only [xX, hm, cut43, cut33, popD_n hl, popD_s hb, Option.map_none, Option.map_some, kvE_drop, wMP]
    | some c =>
      rw [mvB_s hl]
      have h1 := hs1 a
      simp (disch := first | exact h1 | first | omega | (simp only [List.length_cons, List.length_nil, Int.reduceToNat]; omega)) only [xX, hm, hg, List.set_set, cut43, cut33, popD_s hl, Option.map_none, Option.map_some, kvE_drop, kvE_put, ctD_ne, wMP]
end
/-! ### calls that keep the ledger's length -/
theorem kvE_in' (d : Dk) (n : Nat) : inO n (.dic (kvE d)) = true := by
  show (kvE d).all (fun p => inE n p.2) = true
  unfold kvE
  rw [List.all_map]
  exact List.all_eq_true.mpr fun p _ => rfl
abbrev inM (m : Mm) : Prop := m.all (inO m.length) = true
theorem inM_set {m : Mm} {k : Nat} {o : OD} (h : inM m) (ho : inO m.length o = true) : inM (m.set k o) := by
  show (m.set k o).all (inO (m.set k o).length) = true
  rw [List.length_set]
  refine List.all_eq_true.mpr fun x hx => ?_
  rcases List.mem_or_eq_of_mem_set hx with q | q
  · exact List.all_eq_true.mp h x q
  · rw [q]; exact ho
/-- a call with the whole ledger -/
theorem callT {q : Nat} {f : XF} {es : List E} {m m' more : Mm} {r : PyData} (hq : es.length = q) (hm : inM m) (he : es.all (inE m.length) = true) (hl : m'.length = m.length) (hm' : inM m') (h : f es m = .ok (.dat r) (m' ++ more)) : kCallT q f es m = .ok (.dat r) m' := by
  have e1 : m.take m.length = m := List.take_length
  unfold kCallT kCallN
  rw [e1, h, hq, he, hm, decide_eq_true rfl, decide_eq_true (Nat.le_refl _), rb_ok]
  show xg true (kCallB m.length m (.dat r) (m' ++ more)) = _
  unfold kCallB
  have e2 : (m' ++ more).take m.length = m' := by rw [← hl, List.take_left]
  rw [e2, ← hl, hm', hl, List.drop_length, List.append_nil]
  rfl
end LL
/-! the program's execution -/
namespace LL
open PySem PySem.Spec PyProof.Rows L2 DL
theorem shaped_ct {c : Ct} (h : CtOk c) : SeqAt.shaped (ctD c) = true := by
  cases c with
  | inl x => 
    have := can_str (strOk_of fun k hk => Nat.lt_of_lt_of_le (h.2 k hk) (by decide))
    show ((PyData.str x).canLay0 && decide ((PyData.str x).depth ≤ 64)) = true
    rw [this.1, decide_eq_true (by omega)]
    rfl
  | inr i => simp [SeqAt.shaped, ctD, PyData.canLay0, PyData.depth]
theorem shaped_no : SeqAt.shaped .none = true := by simp [SeqAt.shaped, PyData.canLay0, PyData.depth]
theorem ev_si (x : Str) (j : Int) : PyData.eqv (.str x) (.int j) = false := by simp [PyData.eqv]
theorem ev_is (x : Str) (j : Int) : PyData.eqv (.int j) (.str x) = false := by simp [PyData.eqv]
theorem ev_cn (c : Ct) : PyData.eqv (ctD c) .none = false := by cases c <;> simp [PyData.eqv, ctD]
theorem eq_ct {neg : Bool} {c c' : Ct} (h : CtOk c) (h' : CtOk c') : yEqN neg (ctD c) (ctD c') = some (.bool (ng neg (decide (c = c')))) := by
  cases c with
  | inl x => cases c' with
    | inl y =>
      show some (PyData.bool (ng neg (decide (x = y)))) = _
      congr 3
      rw [Bool.eq_iff_iff, decide_eq_true_eq, decide_eq_true_eq]
      exact ⟨fun e => by rw [e], fun e => Sum.inl.inj e⟩
    | inr j => rw [yEqN_of (shaped_ct h) (shaped_ct h')]; exact congrArg (fun b => some (PyData.bool (ng neg b))) (ev_si x j)
  | inr i => cases c' with
    | inl y => rw [yEqN_of (shaped_ct h) (shaped_ct h')]; exact congrArg (fun b => some (PyData.bool (ng neg b))) (ev_is y i)
    | inr j =>
      show some (PyData.bool (ng neg (decide (i = j)))) = _
      congr 3
      rw [Bool.eq_iff_iff, decide_eq_true_eq, decide_eq_true_eq]
      exact ⟨fun e => by rw [e], fun e => Sum.inr.inj e⟩
theorem eq_cn {neg : Bool} {c : Ct} (h : CtOk c) : yEqN neg (ctD c) .none = some (.bool (ng neg false)) := by rw [yEqN_of (shaped_ct h) shaped_no, ev_cn]
theorem eq_cs {neg : Bool} {c : Ct} {t : Str} (h : CtOk c) (h' : Pl t) : yEqN neg (ctD c) (.str t) = some (.bool (ng neg (decide (c = .inl t)))) := eq_ct (c' := .inl t) h h'
theorem wne {a b : String} (h : ¬ (Str.ofString a = Str.ofString b)) : decide (Str.ofString a = Str.ofString b) = false := decide_eq_false h
theorem yIn_two {neg : Bool} {w a b : Str} : yIn neg (.str w) (.tuple [.str a, .str b]) = some (.bool (ng neg (decide (w = a) || decide (w = b)))) := by
  rw [yIn_tup rfl rfl]
  unfold memD
  rw [List.any_cons, List.any_cons, List.any_nil, Bool.or_false, PyData.eqv, PyData.eqv]
  congr 4 <;> (rw [Bool.eq_iff_iff, decide_eq_true_eq, beq_iff_eq]; exact eq_comm)
def FS : List (Str × E) := [("contents_seen", .loc 1), ("entries_made", .loc 2)]
theorem fs_c : FS.lookup ("contents_seen" : Str) = some (E.loc 1) := by rfl
theorem fs_e : FS.lookup ("entries_made" : Str) = some (E.loc 2) := by rfl
theorem fs_m1 : FS.lookup ("is_true" : Str) = none := by rfl
theorem fs_m2 : FS.lookup ("change_of" : Str) = none := by rfl
theorem fs_m3 : FS.lookup ("execute_change" : Str) = none := by rfl
theorem fs_m4 : FS.lookup ("execute" : Str) = none := by rfl
theorem fs_m5 : FS.lookup ("execute_all" : Str) = none := by rfl
abbrev esE (es : List En) : List E := (es.map enD).map E.dat
abbrev LG (C : Addr) (d : Dk) (es : List En) : Mm := [.ins C FS, .dic (kvE d), .lst (esE es)]
theorem esE_len (es : List En) : (esE es).length = es.length := by rw [List.length_map, List.length_map]
theorem esE_app (es : List En) (e : En) : esE es ++ [E.dat (enD e)] = esE (es ++ [e]) := by unfold esE; rw [List.map_append, List.map_append]; rfl
theorem lk_ok {d : Dk} (h : Ents d) {a : Str} {c : Ct} (e : lkD d a = some c) : CtOk c := by
  obtain ⟨p, hp, _, rfl⟩ := lk_ent e
  exact (h p hp).2
theorem inM_LG (C : Addr) (d : Dk) (es : List En) : inM (LG C d es) := by
  show (inO 3 (.ins C FS) && (inO 3 (.dic (kvE d)) && (inO 3 (.lst (esE es)) && true))) = true
  rw [kvE_in', show inO 3 (.ins C FS) = true from rfl, show inO 3 (.lst (esE es)) = true from List.all_eq_true.mpr fun e he => by
    obtain ⟨x, _, rfl⟩ := List.mem_map.mp he
    rfl]
  rfl
theorem meth {C : Addr} {q : Nat} {f : XF} {a : E} {es : List E} {d d' : Dk} {n n' : List En} {r : PyData} (hq : (a :: es).length = q) (he : (a :: es).all (inE 3) = true) (h : f (a :: es) (LG C d n) = .ok (.dat r) (LG C d' n')) : kMeth1 q f a es (LG C d n) = .ok (.dat r) (LG C d' n') :=
  callT (more := []) hq (inM_LG C d n) he rfl (inM_LG C d' n') (by rw [List.append_nil]; exact h)
section
variable {C : Addr} {d : Dk} {es : List En}
theorem true_ok (hd : Ents d) {t : Tst} (ht : OkT t) : x_Runner_is_true C [.loc 0, .dat (tstD t)] (LG C d es) = .ok (.dat (.bool (tsO d t))) (LG C d es) := by
  have hz := szl
  unfold x_Runner_is_true y_Runner_is_true
  cases t with
  | ex a =>
    unfold tstD tsO
    cases hl : lkD d a with
    | none => simp (disch := first | first | omega | (simp only [List.length_cons, List.length_nil, Int.reduceToNat]; omega) | decide +kernel) only [xX, Bool.false_and, reduceCtorEq, decide_false, Option.some.injEq, wne, Option.getD_some, Option.getD_none, fs_c, kvE_look, hl, Option.map_none, Option.isSome_none]
    | some c => simp (disch := first | first | omega | (simp only [List.length_cons, List.length_nil, Int.reduceToNat]; omega) | decide +kernel) only [xX, Bool.false_and, reduceCtorEq, decide_false, Option.some.injEq, wne, Option.getD_some, Option.getD_none, fs_c, kvE_look, hl, Option.map_some, ctD_ne, Option.isSome_some]
  | same a b =>
    unfold tstD tsO
    cases hl : lkD d a with
    | none =>
      cases hb : lkD d b with
      | none => simp (disch := first | first | omega | (simp only [List.length_cons, List.length_nil, Int.reduceToNat]; omega) | decide +kernel) only [xX, Bool.false_and, reduceCtorEq, decide_false, Option.some.injEq, wne, Option.getD_some, Option.getD_none, fs_c, kvE_look, hl, hb, Option.map_none, Option.isSome_none]
      | some c' => simp (disch := first | first | omega | (simp only [List.length_cons, List.length_nil, Int.reduceToNat]; omega) | decide +kernel) only [xX, Bool.false_and, reduceCtorEq, decide_false, Option.some.injEq, wne, Option.getD_some, Option.getD_none, fs_c, kvE_look, hl, hb, Option.map_none, Option.map_some, Option.isSome_none]
    | some c =>
      cases hb : lkD d b with
      | none => simp (disch := first | first | omega | (simp only [List.length_cons, List.length_nil, Int.reduceToNat]; omega) | decide +kernel) only [xX, Bool.false_and, reduceCtorEq, decide_false, Option.some.injEq, wne, Option.getD_some, Option.getD_none, fs_c, kvE_look, hl, hb, Option.map_none, Option.map_some, Option.isSome_some, ctD_ne, eq_cn (lk_ok hd hl)]
      | some c' => simp (disch := first | first | omega | (simp only [List.length_cons, List.length_nil, Int.reduceToNat]; omega) | decide +kernel) only [xX, Bool.false_and, reduceCtorEq, decide_false, Option.some.injEq, wne, Option.getD_some, Option.getD_none, fs_c, kvE_look, hl, hb, Option.map_none, Option.map_some, Option.isSome_some, ctD_ne, eq_ct (lk_ok hd hl) (lk_ok hd hb)]
  | is a t =>
    unfold tstD tsO
    cases hl : lkD d a with
    | none => simp (disch := first | first | omega | (simp only [List.length_cons, List.length_nil, Int.reduceToNat]; omega) | decide +kernel) only [xX, Bool.false_and, reduceCtorEq, decide_false, Option.some.injEq, wne, Option.getD_some, Option.getD_none, fs_c, kvE_look, hl, Option.map_none, Option.isSome_none]
    | some c => simp (disch := first | first | omega | (simp only [List.length_cons, List.length_nil, Int.reduceToNat]; omega) | decide +kernel) only [xX, Bool.false_and, reduceCtorEq, decide_false, Option.some.injEq, wne, Option.getD_some, Option.getD_none, fs_c, kvE_look, hl, Option.map_some, Option.isSome_some, ctD_ne, eq_cs (lk_ok hd hl) ht.2]
def oD : Option Ch → PyData
  | none => .none
  | some c => chD c
theorem fe_no {m : Mm} {g : Gm} : fEnd (.ok (.nx g) m) = .ok (.dat .none) m := rfl
theorem ch_ne (c : Ch) : DL.isNon (chD c) = false := by cases c <;> rfl
def wO : Op → Str × List PyData
  | .write a t => ("write", [.str a, .str t])
  | .copy a b => ("copy", [.str a, .str b])
  | .rename a b => ("rename", [.str a, .str b])
  | .delete a => ("delete", [.str a])
  | .sync => ("sync", [])
  | .flush a => ("flush", [.str a])
  | .ite t y n => ("if", [tstD t, .tuple (opsD y), .tuple (opsD n)])
theorem opD_w (o : Op) : opD o = .tuple (.str (wO o).1 :: (wO o).2) := by
  cases o <;> rw [opD] <;> rfl
def chg : Op → Bool
  | .write _ _ => true
  | .copy _ _ => true
  | .rename _ _ => true
  | .delete _ => true
  | _ => false
theorem chg_ok {o : Op} (ho : chg o = true) : x_Runner_change_of C [.loc 0, .dat (.str (wO o).1), .dat (.list (wO o).2)] (LG C d es) = .ok (.dat (oD (chO d o))) (LG C d es) := by
  have hz := szl
  unfold x_Runner_change_of y_Runner_change_of
  cases o with
  | write a t => 
    unfold wO chO oD chD ctD
    simp (disch := first | first | omega | (simp only [List.length_cons, List.length_nil, Int.reduceToNat]; omega) | decide +kernel) only [xX, wne, Option.getD_some, Option.getD_none, fs_c, kvE_look]
  | copy a b =>
    unfold wO chO oD
    cases hl : lkD d a with
    | none => simp (disch := first | first | omega | (simp only [List.length_cons, List.length_nil, Int.reduceToNat]; omega) | decide +kernel) only [xX, wne, Option.getD_some, Option.getD_none, fs_c, kvE_look, hl, Option.map_none]
    | some c =>
      simp (disch := first | first | omega | (simp only [List.length_cons, List.length_nil, Int.reduceToNat]; omega) | decide +kernel) only [xX, wne, Option.getD_some, Option.getD_none, fs_c, kvE_look, hl, Option.map_some, ctD_ne]
      rfl
  | rename a b =>
    unfold wO chO oD
    cases hl : lkD d a with
    | none => simp (disch := first | first | omega | (simp only [List.length_cons, List.length_nil, Int.reduceToNat]; omega) | decide +kernel) only [xX, wne, Option.getD_some, Option.getD_none, fs_c, kvE_look, hl, Option.map_none]
    | some c =>
      simp (disch := first | first | omega | (simp only [List.length_cons, List.length_nil, Int.reduceToNat]; omega) | decide +kernel) only [xX, wne, Option.getD_some, Option.getD_none, fs_c, kvE_look, hl, Option.map_some, ctD_ne]
      rfl
  | delete a =>
    unfold wO chO oD
    cases hl : lkD d a with
    | none => simp (disch := first | first | omega | (simp only [List.length_cons, List.length_nil, Int.reduceToNat]; omega) | decide +kernel) only [xX, wne, Option.getD_some, Option.getD_none, fs_c, kvE_look, hl, Option.map_none]
    | some c =>
      simp (disch := first | first | omega | (simp only [List.length_cons, List.length_nil, Int.reduceToNat]; omega) | decide +kernel) only [xX, wne, Option.getD_some, Option.getD_none, fs_c, kvE_look, hl, Option.map_some, ctD_ne]
      rfl
  | sync => cases ho
  | flush a => cases ho
  | ite t y n => cases ho
theorem change_ok {o : Op} (ho : chg o = true) (hd : d.length ≤ 1000) (hs : es.length < 1000) : x_Runner_execute_change C [.loc 0, .dat (.str (wO o).1), .dat (.list (wO o).2)] (LG C d es) = .ok (.dat .none) (LG C (chS mkA (d, es) (chO d o)).1 (chS mkA (d, es) (chO d o)).2) := by
  have hz := szl
  have h1 : kMeth1 3 (x_Runner_change_of C) (.loc 0) [.dat (.str (wO o).1), .dat (.list (wO o).2)] (LG C d es) = .ok (.dat (oD (chO d o))) (LG C d es) := meth rfl rfl (chg_ok ho)
  unfold x_Runner_execute_change y_Runner_execute_change
  cases hc : chO d o with
  | none =>
    rw [hc] at h1
    replace h1 : kMeth1 3 (x_Runner_change_of C) (.loc 0) [.dat (.str (wO o).1), .dat (.list (wO o).2)] (LG C d es) = .ok (.dat .none) (LG C d es) := h1
    show _ = Rs.ok (E.dat .none) (LG C d es)
    simp (disch := first | first | omega | (simp only [List.length_cons, List.length_nil, Int.reduceToNat]; omega) | decide +kernel) only [xX, fs_m2, h1]
  | some c =>
    rw [hc] at h1
    have h1' : kMeth1 3 (x_Runner_change_of C) (.loc 0) [.dat (.str (wO o).1), .dat (.list (wO o).2)] (LG C d es) = .ok (.dat (chD c)) (LG C d es) := h1
    have hap : esE es ++ [E.dat (chD c)] = esE (es ++ [.ch c]) := esE_app es (.ch c)
    have hl : (esE es).length < sizeLine := by rw [esE_len]; omega
    have h2 : kCallT 2 x_make_change [.loc 1, .dat (chD c)] (LG C d (es ++ [.ch c])) = .ok (.dat .none) (LG C (mkA d c) (es ++ [.ch c])) := callT (more := []) rfl (inM_LG C _ _) rfl rfl (inM_LG C _ _) (by
      rw [List.append_nil]
      exact make_ok (m := LG C d (es ++ [.ch c])) (k := 1) rfl hd c)
    show _ = Rs.ok (E.dat .none) (LG C (mkA d c) (es ++ [.ch c]))
    simp (disch := first | exact hl | first | omega | (simp only [List.length_cons, List.length_nil, Int.reduceToNat]; omega) | decide +kernel) only [xX, fs_c, fs_e, fs_m2, h1', ch_ne, hap, h2]
theorem exe_ok (r : XF) (rr : List Op → RS → RS) (o : Op) (hr : ∀ t y n, o = .ite t y n → (OkT t ∧ ∀ l, l = y ∨ l = n → r [.loc 0, .dat (.tuple (opsD l))] (LG C d es) = .ok (.dat .none) (LG C (rr l (d, es)).1 (rr l (d, es)).2))) (he : Ents d) (hd : d.length ≤ 1000) (hs : es.length < 1000) :
    x_Runner_execute C r [.loc 0, .dat (opD o)] (LG C d es) = .ok (.dat .none) (LG C (stp mkA rr (d, es) o).1 (stp mkA rr (d, es) o).2) := by
  have hz := szl
  have hl : (esE es).length < sizeLine := by rw [esE_len]; omega
  unfold x_Runner_execute y_Runner_execute
  by_cases ho : chg o = true
  · have h1 : kMeth1 3 (x_Runner_execute_change C) (.loc 0) [.dat (.str (wO o).1), .dat (.list (wO o).2)] (LG C d es) = .ok (.dat .none) (LG C (chS mkA (d, es) (chO d o)).1 (chS mkA (d, es) (chO d o)).2) := meth rfl rfl (change_ok ho hd hs)
    have e0 : stp mkA rr (d, es) o = chS mkA (d, es) (chO d o) := by cases o <;> first | rfl | cases ho
    rw [e0]
    rw [opD_w]
    have hw1 : decide ((wO o).1 = ("if" : Str)) = false := by cases o <;> first | exact wne (by decide +kernel) | cases ho
    have hw2 : decide ((wO o).1 = ("sync" : Str)) = false := by cases o <;> first | exact wne (by decide +kernel) | cases ho
    have hw3 : decide ((wO o).1 = ("flush" : Str)) = false := by cases o <;> first | exact wne (by decide +kernel) | cases ho
    generalize wO o = p at h1 hw1 hw2 hw3
    obtain ⟨w, ps⟩ := p
    simp (disch := first | first | omega | (simp only [List.length_cons, List.length_nil, Int.reduceToNat]; omega) | decide +kernel) only [xX, wne, yIn_two, Bool.or_self, fs_m3, hw1, hw2, hw3, h1]
  · cases o with
    | sync =>
      have hap : esE es ++ [E.dat (.tuple [.str "sync"])] = esE (es ++ [.sync]) := esE_app es .sync
      rw [opD_w]
      unfold wO
      simp (disch := first | exact hl | first | omega | (simp only [List.length_cons, List.length_nil, Int.reduceToNat]; omega) | decide +kernel) only [xX, wne, yIn_two, Bool.true_or, Bool.false_or, decide_true, fs_e, hap]
      rfl
    | flush a =>
      have hap : esE es ++ [E.dat (.tuple [.str "flush", .str a])] = esE (es ++ [.flush a]) := esE_app es (.flush a)
      rw [opD_w]
      unfold wO
      simp (disch := first | exact hl | first | omega | (simp only [List.length_cons, List.length_nil, Int.reduceToNat]; omega) | decide +kernel) only [xX, wne, yIn_two, Bool.true_or, Bool.false_or, decide_true, fs_e, hap]
      rfl
    | ite t y n =>
      obtain ⟨ht, hr⟩ := hr t y n rfl
      have h1 : kMeth1 2 (x_Runner_is_true C) (.loc 0) [.dat (tstD t)] (LG C d es) = .ok (.dat (.bool (tsO d t))) (LG C d es) := meth rfl rfl (true_ok he ht)
      have hy := meth (q := 2) (C := C) (f := r) rfl rfl (hr y (Or.inl rfl))
      have hn := meth (q := 2) (C := C) (f := r) rfl rfl (hr n (Or.inr rfl))
      rw [opD_w]
      unfold wO
      show _ = Rs.ok (E.dat .none) (LG C (rr (if tsO d t = true then y else n) (d, es)).1 (rr (if tsO d t = true then y else n) (d, es)).2)
      cases hts : tsO d t with
      | true =>
        rw [hts] at h1
        simp (disch := first | first | omega | (simp only [List.length_cons, List.length_nil, Int.reduceToNat]; omega) | decide +kernel) only [xX, wne, fs_m1, fs_m5, h1, hy, if_true]
      | false =>
        rw [hts] at h1
        simp (disch := first | first | omega | (simp only [List.length_cons, List.length_nil, Int.reduceToNat]; omega) | decide +kernel) only [xX, wne, fs_m1, fs_m5, h1, hn, Bool.false_eq_true, if_false]
    | write a b => exact absurd rfl ho
    | copy a b => exact absurd rfl ho
    | rename a b => exact absurd rfl ho
    | delete a => exact absurd rfl ho
end
end LL
/-! trace -/
namespace LL
open PySem PySem.Spec PyProof.Rows L2 DL
theorem okL_mem : ∀ {l : List Op} {x : Op}, OkL l → x ∈ l → OkO x
  | o :: r, x, h, hx => by
    rw [OkL] at h
    rcases List.mem_cons.mp hx with q | q
    · rw [q]; exact h.1
    · exact okL_mem h.2 q
theorem all_step {C : Addr} {n : Nat} (hr : ∀ (l : List Op) (d : Dk) (es : List En), dpL l + 1 ≤ n → d.length + szL l ≤ 900 → es.length + szL l ≤ 900 → OkL l → SOk (d, es) →
    x_Runner_execute_all C n [.loc 0, .dat (.tuple (opsD l))] (LG C d es) = .ok (.dat .none) (LG C (run mkA n l (d, es)).1 (run mkA n l (d, es)).2))
    (l : List Op) (d : Dk) (es : List En) (hdp : dpL l ≤ n) (h1 : d.length + szL l ≤ 900) (h2 : es.length + szL l ≤ 900) (hok : OkL l) (hs : SOk (d, es)) :
    x_Runner_execute_all C (n + 1) [.loc 0, .dat (.tuple (opsD l))] (LG C d es) = .ok (.dat .none) (LG C (run mkA (n + 1) l (d, es)).1 (run mkA (n + 1) l (d, es)).2) := by
  have hz := szl
  have hll := sz_len l
  have hls : (l.map opD).length ≤ sizeLine := by rw [List.length_map]; omega
  show fDef N_Runner_execute_all (y_Runner_execute_all C (x_Runner_execute_all C n)) _ _ = _
  rw [opsD_map]
  unfold y_Runner_execute_all
  have hf := forL_foldT (ws := [2]) (n := none) (dg := xgName 2) (tb := xDrop (xMeth C "execute" 2 (x_Runner_execute C (x_Runner_execute_all C n)) (xVar 0) (xCons (xVar 2) xNil))) opD l
    (fun _ => [some (.loc 0), some (.dat (.tuple (l.map opD))), none]) (fun s : RS => LG C s.1 s.2) (stp mkA (run mkA n)) (fun i s => s.1.length + szL (l.drop i) ≤ 900 ∧ s.2.length + szL (l.drop i) ≤ 900 ∧ SOk s) (s := (d, es)) ⟨h1, h2, hs⟩ fun i x s hx hI => by
    obtain ⟨d, es⟩ := s
    obtain ⟨i1, i2, i3⟩ := hI
    have hxm := List.mem_of_getElem? hx
    have hox := okL_mem hok hxm
    have hsd := sz_drop hx
    have hdx := dp_mem hxm
    have hp := sz_pos x
    rw [hsd] at i1 i2
    obtain ⟨⟨b1, b2⟩, b3⟩ := stp_small (mk := mkA) good_A (r := run mkA n) (run_small good_A n) (s := (d, es)) i3.1 x
    have hm := exe_ok (C := C) (d := d) (es := es) (x_Runner_execute_all C n) (run mkA n) x (fun t y no e => by
      subst e
      rw [OkO] at hox
      rw [dpO] at hdx
      rw [szO] at i1 i2
      refine ⟨hox.1, fun b hb => ?_⟩
      rcases hb with rfl | rfl
      · exact hr b d es (by omega) (by dsimp only at i1; omega) (by dsimp only at i2; omega) hox.2.1 i3
      · exact hr b d es (by omega) (by dsimp only at i1; omega) (by dsimp only at i2; omega) hox.2.2 i3) i3.2.1 (by dsimp only at i1; omega) (by dsimp only at i2; omega)
    have hm' := meth (q := 2) (C := C) (es := [.dat (opD x)]) rfl rfl hm
    refine ⟨⟨by omega, by omega, stp_ok good_A (fun l s => run_ok good_A n l s) i3 hox⟩, ?_⟩
    generalize stp mkA (run mkA n) (d, es) x = s' at hm'
    simp (disch := first | first | omega | (simp only [List.length_cons, List.length_nil, Int.reduceToNat]; omega) | decide +kernel) only [xX, fs_m4, hm']
    exact ⟨_, _, rfl, rfl, rfl⟩
  simp (disch := first | exact hls | first | omega | (simp only [List.length_cons, List.length_nil, Int.reduceToNat]; omega) | decide +kernel) only [xX, hf.1]
  rfl
theorem all_ok {C : Addr} : ∀ (n : Nat) (l : List Op) (d : Dk) (es : List En), dpL l ≤ n → d.length + szL l ≤ 900 → es.length + szL l ≤ 900 → OkL l → SOk (d, es) →
    x_Runner_execute_all C (n + 1) [.loc 0, .dat (.tuple (opsD l))] (LG C d es) = .ok (.dat .none) (LG C (run mkA (n + 1) l (d, es)).1 (run mkA (n + 1) l (d, es)).2)
  | 0, l, d, es, h0, h1, h2, h3, h4 => all_step (fun l d es h => absurd h (by omega)) l d es h0 h1 h2 h3 h4
  | n + 1, l, d, es, h0, h1, h2, h3, h4 => all_step (fun l d es h => all_ok n l d es (by omega)) l d es h0 h1 h2 h3 h4
end LL
/-! trace, whole -/
namespace LL
open PySem PySem.Spec PyProof.Rows L2 DL
abbrev keyP (d : Dk) : List (Key × PyData) := d.map fun p => (.inr p.1, ctD p.2)
theorem keyP_E (d : Dk) : dicE (keyP d) = .dic (kvE d) := by
  unfold dicE keyP kvE
  rw [List.map_map]
  rfl
theorem keyP_new {d : Dk} (h : (ksD d).Nodup) : mergeA [] (keyP d) = keyP d := by
  rw [mergeA_new (kvs := []), List.nil_append]
  rw [List.nil_append, List.map_map]
  have e : List.map ((fun x : Key × PyData => x.1) ∘ fun p : Str × Ct => ((Sum.inr p.1 : Key), ctD p.2)) d = (ksD d).map Sum.inr := by rw [List.map_map]; rfl
  rw [e]
  exact List.pairwise_map.mpr (h.imp fun hne e => hne (Sum.inr.inj e))
theorem asdict_ok {d : Dk} (m : Mm) (hl : d.length ≤ 1000) (h : (ksD d).Nodup) : x_as_dict [.dat (diskD d)] m = .ok (.loc m.length) (m ++ [.dic (kvE d)]) := by
  have hz := szl
  have hdl : (d.map entD).length ≤ sizeLine := by rw [List.length_map]; omega
  unfold x_as_dict y_as_dict diskD
  have hc : dcL (xgTup 2 (xgCons (xgName 1) (xgCons (xgName 2) xgNil))) xYes (xVar 1) (xVar 2) [some (.dat (.tuple (d.map entD))), none, none] (d.map entD) [] m = .ok (mergeA [] (keyP d)) m := dcL_foldT entD d (f := fun p => (.inr p.1, ctD p.2)) (fun x hx k acc => by
    obtain ⟨nm, c⟩ := x
    unfold entD
    simp (disch := first | omega | (simp only [List.length_cons, List.length_nil, Int.reduceToNat]; omega)) only [xX]) []
  simp (disch := first | exact hdl | first | omega | (simp only [List.length_cons, List.length_nil, Int.reduceToNat]; omega)) only [xX, hc, keyP_new h, keyP_E]
theorem pf2 : putFE "entries_made" (.loc 2) (putFE "contents_seen" (.loc 1) []) = FS := by rfl
theorem init_ok {C : Addr} {l : List Op} {d : Dk} (h0 : dpL l ≤ 19) (h1 : d.length + szL l ≤ 900) (hok : OkL l) (nd : (ksD d).Nodup) (hd : Ents d) :
    x_Runner_init C [.loc 0, .dat (.tuple (opsD l)), .dat (diskD d)] [.ins C []] = .ok (.dat .none) (LG C (run mkA 20 l (d, [])).1 (run mkA 20 l (d, [])).2) := by
  have hz := szl
  have ha := all_ok (C := C) 19 l d [] h0 h1 (by show 0 + _ ≤ _; omega) hok ⟨nd, hd, fun e he => absurd he List.not_mem_nil⟩
  have hm := meth (q := 2) (C := C) (es := [.dat (.tuple (opsD l))]) rfl rfl ha
  have has := asdict_ok [.ins C []] (d := d) (by omega) nd
  unfold x_Runner_init y_Runner_init
  have hm' : kMeth1 2 (x_Runner_execute_all C 20) (.loc 0) [.dat (.tuple (opsD l))] [.ins C FS, .dic (kvE d), .lst []] = .ok (.dat .none) (LG C (run mkA 20 l (d, [])).1 (run mkA 20 l (d, [])).2) := hm
  have hl0 : (FS.length < 1000) := by decide
  simp (disch := first | first | omega | (simp only [List.length_cons, List.length_nil, Int.reduceToNat]; omega) | decide +kernel) only [xX, has, pf2, fs_m5, hm']
theorem trace_ok {C : Addr} {l : List Op} {d : Dk} (h0 : dpL l ≤ 19) (h1 : d.length + szL l ≤ 900) (hok : OkL l) (nd : (ksD d).Nodup) (hd : Ents d) :
    x_trace C [.dat (.tuple (opsD l)), .dat (diskD d)] [] = .ok (.dat (.tuple ((run mkA 20 l (d, [])).2.map enD))) (LG C (run mkA 20 l (d, [])).1 (run mkA 20 l (d, [])).2) := by
  have hz := szl
  have hi := init_ok (C := C) h0 h1 hok nd hd
  have hsm := (run_small good_A 20 l (d, []) nd).1.2
  have hll : ((run mkA 20 l (d, [])).2.map enD).length ≤ sizeLine := by
    rw [List.length_map]
    have h3 : ([] : List En).length = 0 := rfl
    dsimp only at hsm
    omega
  unfold x_trace y_trace
  simp (disch := first | exact hll | first | omega | (simp only [List.length_cons, List.length_nil, Int.reduceToNat]; omega) | decide +kernel) only [xX, hi, fs_e]
end LL
/-! the law's own execution -/
namespace LL
open PySem PySem.Spec PyProof.Rows L2 DL
section
variable {m : Mm} {k : Nat} {d : Dk} (hm : m[k]? = some (.dic (kvE d)))
include hm
theorem so_t (hd : Ents d) {t : Tst} (ht : OkT t) : x_law_so [.dat (tstD t), .loc k] m = .ok (.dat (.bool (tsO d t))) m := by
  have hz := szl
  unfold x_law_so y_law_so
  cases t with
  | ex a =>
    unfold tstD tsO
    cases hl : lkD d a with
    | none => simp (disch := first | first | omega | (simp only [List.length_cons, List.length_nil, Int.reduceToNat]; omega) | decide +kernel) only [xX, hm, wne, cut33, Option.isSome_none, Option.isSome_some, kvE_look, hl, Option.map_none, Option.map_some]
    | some c => simp (disch := first | first | omega | (simp only [List.length_cons, List.length_nil, Int.reduceToNat]; omega) | decide +kernel) only [xX, hm, wne, cut33, Option.isSome_none, Option.isSome_some, kvE_look, hl, Option.map_none, Option.map_some]
  | same a b =>
    unfold tstD tsO
    cases hl : lkD d a with
    | none => simp (disch := first | first | omega | (simp only [List.length_cons, List.length_nil, Int.reduceToNat]; omega) | decide +kernel) only [xX, hm, wne, cut43, Option.isSome_none, Option.isSome_some, kvE_look, hl, Option.map_none, Option.map_some, Bool.false_and]
    | some c => 
      cases hb : lkD d b with
      | none => simp (disch := first | first | omega | (simp only [List.length_cons, List.length_nil, Int.reduceToNat]; omega) | decide +kernel) only [xX, hm, wne, cut43, Option.isSome_none, Option.isSome_some, kvE_look, hl, hb, Option.getD_none, Option.getD_some, Option.map_none, Option.map_some, Bool.true_and, reduceCtorEq, decide_false, eq_cn (lk_ok hd hl)]
      | some c' => simp (disch := first | first | omega | (simp only [List.length_cons, List.length_nil, Int.reduceToNat]; omega) | decide +kernel) only [xX, hm, wne, cut43, Option.isSome_none, Option.isSome_some, kvE_look, hl, hb, Option.getD_none, Option.getD_some, Option.map_none, Option.map_some, Bool.true_and, Option.some.injEq, eq_ct (lk_ok hd hl) (lk_ok hd hb)]
  | is a t =>
    unfold tstD tsO
    cases hl : lkD d a with
    | none => simp (disch := first | first | omega | (simp only [List.length_cons, List.length_nil, Int.reduceToNat]; omega) | decide +kernel) only [xX, hm, wne, cut43, Option.isSome_none, Option.isSome_some, kvE_look, hl, Option.map_none, Option.map_some, reduceCtorEq, decide_false]
    | some c => simp (disch := first | first | omega | (simp only [List.length_cons, List.length_nil, Int.reduceToNat]; omega) | decide +kernel) only [xX, hm, wne, cut43, Option.isSome_none, Option.isSome_some, kvE_look, hl, Option.map_none, Option.map_some, Option.some.injEq, eq_cs (lk_ok hd hl) ht.2]
end
theorem fr_id {q : Nat} {dd : PyData} {M : Mm} (h : M.all (inO q) = true) : M.map (frO q dd) = M := by
  have he : ∀ e, inE q e = true → frE q dd e = e := fun e he => by
    cases e with
    | loc j =>
      have := of_decide_eq_true he
      show (if j = q then _ else _) = _
      rw [if_neg (by omega)]
    | dat _ => rfl
    | scr _ => rfl
  conv => rhs; rw [← List.map_id M]
  refine List.map_congr_left fun o ho => ?_
  have := List.all_eq_true.mp h o ho
  cases o with
  | gone => rfl
  | lst xs =>
    show OD.lst (xs.map (frE q dd)) = .lst xs
    congr 1
    conv => rhs; rw [← List.map_id xs]
    exact List.map_congr_left fun x hx => he x (List.all_eq_true.mp this x hx)
  | dic kvs =>
    show OD.dic (kvs.map fun p => (p.1, frE q dd p.2)) = .dic kvs
    congr 1
    conv => rhs; rw [← List.map_id kvs]
    exact List.map_congr_left fun x hx => by rw [he x.2 (List.all_eq_true.mp this x hx)]; rfl
  | ins C fs =>
    show OD.ins C (fs.map fun p => (p.1, frE q dd p.2)) = .ins C fs
    congr 1
    conv => rhs; rw [← List.map_id fs]
    exact List.map_congr_left fun x hx => by rw [he x.2 (List.all_eq_true.mp this x hx)]; rfl
theorem fr_tail {M : Mm} {o : OD} {dd : PyData} (h : inM M) : ((M ++ [o]).set M.length .gone).map (frO M.length dd) = M ++ [.gone] := by
  rw [List.set_append_right _ _ (Nat.le_refl _), Nat.sub_self, List.map_append, fr_id h]
  rfl
end LL
/-! the law's own execution, whole -/
namespace LL
open PySem PySem.Spec PyProof.Rows L2 DL
theorem cut53 (a b c d e : PyData) : cutD [a, b, c, d, e] none (some 3) = [a, b, c] := rfl
theorem cut63' (a b c d e f : PyData) : cutD [a, b, c, d, e, f] none (some 3) = [a, b, c] := rfl
theorem d1_k {X Y : PyData} : keysP [(.str "write", X), (.str "copy", Y)] = some [.inr "write", .inr "copy"] := rfl
theorem d2_k {X Y : PyData} : keysP [(.str "rename", X), (.str "delete", Y)] = some [.inr "rename", .inr "delete"] := rfl
theorem d1_n : decide ([Sum.inr ("write" : Str), Sum.inr ("copy" : Str)] : List Key).Nodup = true := by decide +kernel
theorem d2_n : decide ([Sum.inr ("rename" : Str), Sum.inr ("delete" : Str)] : List Key).Nodup = true := by decide +kernel
theorem l1_w {X Y : PyData} : lookP [(.str "write", X), (.str "copy", Y)] (.inr "write") = some X := by rfl
theorem l1_c {X Y : PyData} : lookP [(.str "write", X), (.str "copy", Y)] (.inr "copy") = some Y := by rfl
theorem l1_r {X Y : PyData} : lookP [(.str "write", X), (.str "copy", Y)] (.inr "rename") = none := by rfl
theorem l1_d {X Y : PyData} : lookP [(.str "write", X), (.str "copy", Y)] (.inr "delete") = none := by rfl
theorem l2_w {X Y : PyData} : lookP [(.str "rename", X), (.str "delete", Y)] (.inr "write") = none := by rfl
theorem l2_c {X Y : PyData} : lookP [(.str "rename", X), (.str "delete", Y)] (.inr "copy") = none := by rfl
theorem l2_r {X Y : PyData} : lookP [(.str "rename", X), (.str "delete", Y)] (.inr "rename") = some X := by rfl
theorem l2_d {X Y : PyData} : lookP [(.str "rename", X), (.str "delete", Y)] (.inr "delete") = some Y := by rfl
abbrev entB (r : XF) : XS := (xSeq (xAsg (xSl (xOp yAdd (xVar 3) (xTup (xCons (xC .none) (xCons (xC .none) xNil)))) xNoPart (xPart (xC (.int 3)))) (xgTup 3 (xgCons (xgName 4) (xgCons (xgName 5) (xgCons (xgName 6) xgNil))))) 
    (xIfS (xB (xOp (yEqN false) (xVar 4) (xC (.str "if")))) (xAsg (xAddM (xVar 2) (xCallT 2 r (xCons (xIx (xVar 3) (xIf (xB (xCallT 2 x_law_so (xCons (xVar 5) (xCons (xVar 1) xNil)))) (xC (.int 2)) (xC (.int 3)))) (xCons (xVar 1) xNil)))) (xgName 2)) (xIfS (xB (xOp (yIn false) (xVar 4) (xTup (xCons (xC (.str "sync")) (xCons (xC (.str "flush")) xNil))))) (xDrop (xApp (xVar 2) (xVar 3))) (xIfS (xOr (xB (xOp (yEqN false) (xVar 4) (xC (.str "write")))) (xB (xInD false (xVar 5) (xVar 1)))) (xSeq (xAsg (xGet2 (xDisp (xpCons (xC (.str "write")) (xTup (xCons (xC (.str "put")) (xCons (xVar 5) (xCons (xVar 6) xNil)))) (xpCons (xC (.str "copy")) (xTup (xCons (xC (.str "put")) (xCons (xVar 6) (xCons (xGet2 (xVar 1) (xVar 5) (xC .none)) xNil)))) xpNil))) (xVar 4) (xC .none)) (xgName 7)) 
    (xSeq (xAsg (xGet2 (xDisp (xpCons (xC (.str "rename")) (xTup (xCons (xC (.str "move")) (xCons (xVar 5) (xCons (xVar 6) xNil)))) (xpCons (xC (.str "delete")) (xTup (xCons (xC (.str "remove")) (xCons (xVar 5) xNil))) xpNil))) (xVar 4) (xVar 7)) (xgName 7)) 
    (xSeq (xDrop (xCallT 2 x_law_make (xCons (xVar 1) (xCons (xVar 7) xNil)))) 
    (xDrop (xApp (xVar 2) (xVar 7)))))) xNext))))
theorem ent_tie (n : Nat) : x_law_entries (n + 1) = fDef N_law_entries (xSeq (xAsg (xLstM xNil) (xgName 2)) (xSeq (xFor [3, 4, 5, 6, 7] false (xiA (xVar 0)) (xgName 3) (entB (x_law_entries n))) (xFrzV 2 (xRet (xVar 2))))) := rfl
/-- the ledger below the list of the found -/
structure Jn (m0 : Mm) (k : Nat) (d : Dk) (M : Mm) : Prop where
  le : m0.length ≤ M.length
  tk : M.take m0.length = m0.set k (.dic (kvE d))
  im : inM M
theorem Jn.get {m0 : Mm} {k : Nat} {d : Dk} {M : Mm} (hk : k < m0.length) (J : Jn m0 k d M) : M[k]? = some (.dic (kvE d)) := by
  have h1 : (M.take m0.length)[k]? = some (.dic (kvE d)) := by rw [J.tk, List.getElem?_set_self hk]
  rw [List.getElem?_take_of_lt hk] at h1
  exact h1
theorem Jn.set {m0 : Mm} {k : Nat} {d : Dk} {M : Mm} (d' : Dk) (J : Jn m0 k d M) : Jn m0 k d' (M.set k (.dic (kvE d'))) := ⟨by rw [List.length_set]; exact J.le, by rw [List.take_set, J.tk, List.set_set], inM_set J.im (kvE_in' d' _)⟩
theorem lst_in {n : Nat} (es : List En) : inO n (.lst (esE es)) = true := List.all_eq_true.mpr fun e he => by
  obtain ⟨x, _, rfl⟩ := List.mem_map.mp he
  rfl
theorem inO_mono {a b : Nat} (h : a ≤ b) {o : OD} (ho : inO a o = true) : inO b o = true := by
  have he : ∀ e, inE a e = true → inE b e = true := fun e he => by
    cases e with
    | loc j => have := of_decide_eq_true he; exact decide_eq_true (by omega)
    | dat _ => rfl
    | scr _ => rfl
  cases o with
  | gone => rfl
  | lst xs => exact List.all_eq_true.mpr fun x hx => he x (List.all_eq_true.mp ho x hx)
  | dic kvs => exact List.all_eq_true.mpr fun x hx => he x.2 (List.all_eq_true.mp ho x hx)
  | ins C fs => exact List.all_eq_true.mpr fun x hx => he x.2 (List.all_eq_true.mp ho x hx)
theorem inM_app {M : Mm} {o : OD} (h : inM M) (ho : inO M.length o = true) : inM (M ++ [o]) := by
  show (M ++ [o]).all (inO (M ++ [o]).length) = true
  rw [List.length_append, List.all_append]
  refine Bool.and_eq_true_iff.mpr ⟨List.all_eq_true.mpr fun x hx => inO_mono (Nat.le_add_right ..) (List.all_eq_true.mp h x hx), ?_⟩
  show (inO _ o && true) = true
  rw [inO_mono (Nat.le_add_right ..) ho]
  rfl
theorem Jn.app {m0 : Mm} {k : Nat} {d : Dk} {M : Mm} (es : List En) (J : Jn m0 k d M) : Jn m0 k d (M ++ [.lst (esE es)]) := ⟨by rw [List.length_append]; have := J.le; omega, by rw [List.take_append_of_le_length J.le, J.tk], inM_app J.im (lst_in es)⟩
abbrev gE (l : List Op) (k q : Nat) : Gm := [some (.dat (.tuple (l.map opD))), some (.loc k), some (.loc q), none, none, none, none, none]
theorem ent_step {m0 M : Mm} {k n : Nat} {l : List Op} {d : Dk} {es : List En} (hk : k < m0.length) (J : Jn m0 k d M) (x : Op)
    (hr : ∀ t y no, x = .ite t y no → OkT t ∧ ∀ b, b = y ∨ b = no → ∀ m, m[k]? = some (.dic (kvE d)) → inM m → ∃ more, x_law_entries n [.dat (.tuple (opsD b)), .loc k] m = .ok (.dat (.list ((run mkB n b (d, [])).2.map enD))) (m.set k (.dic (kvE (run mkB n b (d, [])).1)) ++ more) ∧ (run mkB n b (d, [])).2.length ≤ 900)
    (he : Ents d) (hd : d.length ≤ 1000) (hs : es.length ≤ 1000) :
    ∃ g' m', rb (xgName 3 (.dat (opD x)) (gE l k M.length) (M ++ [.lst (esE es)])) (entB (x_law_entries n)) = .ok (.nx g') m' ∧ ∃ M', Jn m0 k (stp mkB (run mkB n) (d, es) x).1 M' ∧ m' = M' ++ [.lst (esE (stp mkB (run mkB n) (d, es) x).2)] ∧ wipeG g' [3, 4, 5, 6, 7] = gE l k M'.length := by
  have hz := szl
  have hM := J.get hk
  have hkM : k < M.length := Nat.lt_of_lt_of_le hk J.le
  have hm2 : ∀ o, (M ++ [o])[k]? = some (.dic (kvE d)) := fun o => by rw [List.getElem?_append_left hkM, hM]
  have hset2 : ∀ o o', (M ++ [o]).set k o' = M.set k o' ++ [o] := fun o o' => by rw [List.set_append_left _ _ hkM]
  have hq : ∀ o, (M ++ [o])[M.length]? = some o := fun o => by rw [List.getElem?_append_right (Nat.le_refl _), Nat.sub_self]; rfl
  have hset : ∀ o o', (M ++ [o]).set M.length o' = M ++ [o'] := fun o o' => by rw [List.set_append_right _ _ (Nat.le_refl _), Nat.sub_self]; rfl
  have hl : (esE es).length < sizeLine := by rw [esE_len]; omega
  have hq2 : ∀ (c : Dk) o, (M.set k (.dic (kvE c)) ++ [o])[M.length]? = some o := fun c o => by rw [List.getElem?_append_right (by rw [List.length_set]; exact Nat.le_refl _), List.length_set, Nat.sub_self]; rfl
  have hset3 : ∀ (c : Dk) o o', (M.set k (.dic (kvE c)) ++ [o]).set M.length o' = M.set k (.dic (kvE c)) ++ [o'] := fun c o o' => by rw [List.set_append_right _ _ (by rw [List.length_set]; exact Nat.le_refl _), List.length_set, Nat.sub_self]; rfl
  have hmk : ∀ c, kCallT 2 x_law_make [.loc k, .dat (chD c)] (M ++ [.lst (esE es)]) = .ok (.dat .none) (M.set k (.dic (kvE (mkB d c))) ++ [.lst (esE es)]) := fun c =>
    callT (more := []) rfl (inM_app J.im (lst_in es)) (by
      show (decide (k < (M ++ [_]).length) && (true && true)) = true
      rw [decide_eq_true (by rw [List.length_append]; omega)]
      rfl) (by rw [List.length_append, List.length_append, List.length_set]) (inM_app (inM_set J.im (kvE_in' _ _)) (lst_in es)) (by
      rw [List.append_nil, ← hset2]
      exact lmake_ok (hm2 _) hd c)
  have hap : ∀ c, esE es ++ [E.dat (chD c)] = esE (es ++ [.ch c]) := fun c => esE_app es (.ch c)
  have hln : ∀ d' : Dk, (M.set k (.dic (kvE d'))).length = M.length := fun d' => List.length_set
  cases x with
  | sync =>
    have hap : esE es ++ [E.dat (.tuple [.str "sync"])] = esE (es ++ [.sync]) := esE_app es .sync
    rw [opD_w]
    unfold wO
    simp (disch := first | exact hl | first | omega | (simp only [List.length_cons, List.length_nil, Int.reduceToNat]; omega) | decide +kernel) only [xX, wne, yIn_two, Bool.true_or, decide_true, cut33, hq, hset, hap]
    exact ⟨_, _, rfl, M, J, rfl, rfl⟩
  | flush a =>
    have hap : esE es ++ [E.dat (.tuple [.str "flush", .str a])] = esE (es ++ [.flush a]) := esE_app es (.flush a)
    rw [opD_w]
    unfold wO
    simp (disch := first | exact hl | first | omega | (simp only [List.length_cons, List.length_nil, Int.reduceToNat]; omega) | decide +kernel) only [xX, wne, yIn_two, Bool.false_or, decide_true, cut43, hq, hset, hap]
    exact ⟨_, _, rfl, M, J, rfl, rfl⟩
  | write a t =>
    have e0 : stp mkB (run mkB n) (d, es) (.write a t) = (mkB d (.put a (.inl t)), es ++ [.ch (.put a (.inl t))]) := rfl
    rw [opD_w]
    unfold wO
    cases hlk : lkD d a with
    | none =>
      have hmk' := hmk (.put a (.inl t))
      have hap' := hap (.put a (.inl t))
      unfold chD ctD at hmk' hap'
      rw [e0]
      simp (disch := first | exact hl | first | omega | (simp only [List.length_cons, List.length_nil, Int.reduceToNat]; omega) | decide +kernel) only [xX, wne, yIn_two, Bool.or_self, Bool.or_false, Bool.false_or, cut53, cut43, hm2, kvE_look, hlk, Option.map_none, Option.map_some, Option.isSome_none, Option.isSome_some, Option.getD_none, Option.getD_some, d1_k, d1_n, d2_k, d2_n, l1_w, l1_c, l1_r, l1_d, l2_w, l2_c, l2_r, l2_d, hmk', hap', hq2, hset3]
      refine ⟨_, _, rfl, _, J.set _, rfl, ?_⟩
      rw [hln]
      rfl
    | some c =>
      have hmk' := hmk (.put a (.inl t))
      have hap' := hap (.put a (.inl t))
      unfold chD ctD at hmk' hap'
      rw [e0]
      simp (disch := first | exact hl | first | omega | (simp only [List.length_cons, List.length_nil, Int.reduceToNat]; omega) | decide +kernel) only [xX, wne, yIn_two, Bool.or_self, Bool.or_false, Bool.false_or, cut53, cut43, hm2, kvE_look, hlk, Option.map_none, Option.map_some, Option.isSome_none, Option.isSome_some, Option.getD_none, Option.getD_some, d1_k, d1_n, d2_k, d2_n, l1_w, l1_c, l1_r, l1_d, l2_w, l2_c, l2_r, l2_d, hmk', hap', hq2, hset3]
      refine ⟨_, _, rfl, _, J.set _, rfl, ?_⟩
      rw [hln]
      rfl
  | copy a b =>
    cases hlk : lkD d a with
    | none =>
      have e0 : stp mkB (run mkB n) (d, es) (.copy a b) = (d, es) := by
        show chS mkB (d, es) ((lkD d a).map _) = _
        rw [hlk]
        rfl
      rw [e0, opD_w]
      unfold wO
      simp (disch := first | exact hl | first | omega | (simp only [List.length_cons, List.length_nil, Int.reduceToNat]; omega) | decide +kernel) only [xX, wne, yIn_two, Bool.or_self, Bool.or_false, Bool.false_or, cut53, cut43, hm2, kvE_look, hlk, Option.map_none, Option.map_some, Option.isSome_none, Option.isSome_some, Option.getD_none, Option.getD_some, d1_k, d1_n, d2_k, d2_n, l1_w, l1_c, l1_r, l1_d, l2_w, l2_c, l2_r, l2_d]
      exact ⟨_, _, rfl, M, J, rfl, rfl⟩
    | some c =>
      have e0 : stp mkB (run mkB n) (d, es) (.copy a b) = (mkB d (.put b c), es ++ [.ch (.put b c)]) := by
        show chS mkB (d, es) ((lkD d a).map _) = _
        rw [hlk]
        rfl
      rw [opD_w]
      unfold wO
      have hmk' := hmk (.put b c)
      have hap' := hap (.put b c)
      unfold chD at hmk' hap'
      rw [e0]
      simp (disch := first | exact hl | first | omega | (simp only [List.length_cons, List.length_nil, Int.reduceToNat]; omega) | decide +kernel) only [xX, wne, yIn_two, Bool.or_self, Bool.or_false, Bool.false_or, cut53, cut43, hm2, kvE_look, hlk, Option.map_none, Option.map_some, Option.isSome_none, Option.isSome_some, Option.getD_none, Option.getD_some, d1_k, d1_n, d2_k, d2_n, l1_w, l1_c, l1_r, l1_d, l2_w, l2_c, l2_r, l2_d, hmk', hap', hq2, hset3]
      refine ⟨_, _, rfl, _, J.set _, rfl, ?_⟩
      rw [hln]
      rfl
  | rename a b =>
    cases hlk : lkD d a with
    | none =>
      have e0 : stp mkB (run mkB n) (d, es) (.rename a b) = (d, es) := by
        show chS mkB (d, es) ((lkD d a).map _) = _
        rw [hlk]
        rfl
      rw [e0, opD_w]
      unfold wO
      simp (disch := first | exact hl | first | omega | (simp only [List.length_cons, List.length_nil, Int.reduceToNat]; omega) | decide +kernel) only [xX, wne, yIn_two, Bool.or_self, Bool.or_false, Bool.false_or, cut53, cut43, hm2, kvE_look, hlk, Option.map_none, Option.map_some, Option.isSome_none, Option.isSome_some, Option.getD_none, Option.getD_some, d1_k, d1_n, d2_k, d2_n, l1_w, l1_c, l1_r, l1_d, l2_w, l2_c, l2_r, l2_d]
      exact ⟨_, _, rfl, M, J, rfl, rfl⟩
    | some c =>
      have e0 : stp mkB (run mkB n) (d, es) (.rename a b) = (mkB d (.move a b), es ++ [.ch (.move a b)]) := by
        show chS mkB (d, es) ((lkD d a).map _) = _
        rw [hlk]
        rfl
      rw [opD_w]
      unfold wO
      have hmk' := hmk (.move a b)
      have hap' := hap (.move a b)
      unfold chD at hmk' hap'
      rw [e0]
      simp (disch := first | exact hl | first | omega | (simp only [List.length_cons, List.length_nil, Int.reduceToNat]; omega) | decide +kernel) only [xX, wne, yIn_two, Bool.or_self, Bool.or_false, Bool.false_or, cut53, cut43, hm2, kvE_look, hlk, Option.map_none, Option.map_some, Option.isSome_none, Option.isSome_some, Option.getD_none, Option.getD_some, d1_k, d1_n, d2_k, d2_n, l1_w, l1_c, l1_r, l1_d, l2_w, l2_c, l2_r, l2_d, hmk', hap', hq2, hset3]
      refine ⟨_, _, rfl, _, J.set _, rfl, ?_⟩
      rw [hln]
      rfl
  | delete a =>
    cases hlk : lkD d a with
    | none =>
      have e0 : stp mkB (run mkB n) (d, es) (.delete a) = (d, es) := by
        show chS mkB (d, es) ((lkD d a).map _) = _
        rw [hlk]
        rfl
      rw [e0, opD_w]
      unfold wO
      simp (disch := first | exact hl | first | omega | (simp only [List.length_cons, List.length_nil, Int.reduceToNat]; omega) | decide +kernel) only [xX, wne, yIn_two, Bool.or_self, Bool.or_false, Bool.false_or, cut53, cut43, hm2, kvE_look, hlk, Option.map_none, Option.map_some, Option.isSome_none, Option.isSome_some, Option.getD_none, Option.getD_some, d1_k, d1_n, d2_k, d2_n, l1_w, l1_c, l1_r, l1_d, l2_w, l2_c, l2_r, l2_d]
      exact ⟨_, _, rfl, M, J, rfl, rfl⟩
    | some c =>
      have e0 : stp mkB (run mkB n) (d, es) (.delete a) = (mkB d (.rem a), es ++ [.ch (.rem a)]) := by
        show chS mkB (d, es) ((lkD d a).map _) = _
        rw [hlk]
        rfl
      rw [opD_w]
      unfold wO
      have hmk' := hmk (.rem a)
      have hap' := hap (.rem a)
      unfold chD at hmk' hap'
      rw [e0]
      simp (disch := first | exact hl | first | omega | (simp only [List.length_cons, List.length_nil, Int.reduceToNat]; omega) | decide +kernel) only [xX, wne, yIn_two, Bool.or_self, Bool.or_false, Bool.false_or, cut53, cut43, hm2, kvE_look, hlk, Option.map_none, Option.map_some, Option.isSome_none, Option.isSome_some, Option.getD_none, Option.getD_some, d1_k, d1_n, d2_k, d2_n, l1_w, l1_c, l1_r, l1_d, l2_w, l2_c, l2_r, l2_d, hmk', hap', hq2, hset3]
      refine ⟨_, _, rfl, _, J.set _, rfl, ?_⟩
      rw [hln]
      rfl
  | ite t y no =>
    obtain ⟨ht, hr⟩ := hr t y no rfl
    have hso : kCallT 2 x_law_so [.dat (tstD t), .loc k] (M ++ [.lst (esE es)]) = .ok (.dat (.bool (tsO d t))) (M ++ [.lst (esE es)]) := callT (more := []) rfl (inM_app J.im (lst_in es)) (by
      show (true && (decide (k < (M ++ [_]).length) && true)) = true
      rw [decide_eq_true (by rw [List.length_append]; omega)]
      rfl) rfl (inM_app J.im (lst_in es)) (by rw [List.append_nil]; exact so_t (hm2 _) he ht)
    have hcl : ∀ b, b = y ∨ b = no → kCallT 2 (x_law_entries n) [.dat (.tuple (opsD b)), .loc k] (M ++ [.lst (esE es)]) = .ok (.dat (.list ((run mkB n b (d, [])).2.map enD))) (M.set k (.dic (kvE (run mkB n b (d, [])).1)) ++ [.lst (esE es)]) ∧ (run mkB n b (d, [])).2.length ≤ 900 := fun b hb => by
      obtain ⟨more, e, hle⟩ := hr b hb (M ++ [.lst (esE es)]) (hm2 _) (inM_app J.im (lst_in es))
      refine ⟨callT (more := more) rfl (inM_app J.im (lst_in es)) (by
        show (true && (decide (k < (M ++ [_]).length) && true)) = true
        rw [decide_eq_true (by rw [List.length_append]; omega)]
        rfl) (by rw [List.length_append, List.length_append, List.length_set]) (inM_app (inM_set J.im (kvE_in' _ _)) (lst_in es)) ?_, hle⟩
      rw [← hset2]
      exact e
    have e0 : ∀ b, (if tsO d t = true then y else no) = b → stp mkB (run mkB n) (d, es) (.ite t y no) = ((run mkB n b (d, [])).1, es ++ (run mkB n b (d, [])).2) := fun b hb => by
      show run mkB n (if tsO d t = true then y else no) (d, es) = _
      rw [hb]
      exact run_app n b d es
    rw [opD_w]
    unfold wO
    have hix : ∀ u v, atI [PyData.str "if", tstD t, u, v] 2 = some u ∧ atI [PyData.str "if", tstD t, u, v] 3 = some v := fun u v => ⟨rfl, rfl⟩
    have hj : ∀ (d' : Dk) (es' : List En) (q : Nat), q = (M.set k (.dic (kvE d')) ++ [OD.lst (esE es)]).length → Jn m0 k d' (M.set k (.dic (kvE d')) ++ [.lst (esE es)]) := fun d' es' q _ => (J.set d').app es
    cases hts : tsO d t with
    | true =>
      rw [hts] at hso
      obtain ⟨hc, hle⟩ := hcl y (Or.inl rfl)
      rw [e0 y (by rw [hts]; rfl)]
      generalize run mkB n y (d, []) = p at hc hle
      obtain ⟨d', es'⟩ := p
      have hma : es.map enD ++ es'.map enD = (es ++ es').map enD := List.map_append.symm
      have hsz : (es.map enD).length + (es'.map enD).length ≤ 16777216 := by rw [List.length_map, List.length_map]; dsimp only at hle; omega
      simp (disch := first | exact hsz | first | omega | (simp only [List.length_cons, List.length_nil, Int.reduceToNat]; omega) | decide +kernel) only [xX, wne, cut53, cut63', hso, hix, hc, hq2, hma, addLX_l]
      refine ⟨_, _, rfl, _, (J.set d').app es, rfl, ?_⟩
      rfl
    | false =>
      rw [hts] at hso
      obtain ⟨hc, hle⟩ := hcl no (Or.inr rfl)
      rw [e0 no (by rw [hts]; rfl)]
      generalize run mkB n no (d, []) = p at hc hle
      obtain ⟨d', es'⟩ := p
      have hma : es.map enD ++ es'.map enD = (es ++ es').map enD := List.map_append.symm
      have hsz : (es.map enD).length + (es'.map enD).length ≤ 16777216 := by rw [List.length_map, List.length_map]; dsimp only at hle; omega
      simp (disch := first | exact hsz | first | omega | (simp only [List.length_cons, List.length_nil, Int.reduceToNat]; omega) | decide +kernel) only [xX, wne, cut53, cut63', hso, hix, hc, hq2, hma, addLX_l]
      refine ⟨_, _, rfl, _, (J.set d').app es, rfl, ?_⟩
      rfl
end LL
/-! the law's own execution, whole -/
namespace LL
open PySem PySem.Spec PyProof.Rows L2 DL
theorem ent_all {n : Nat} (hr : ∀ (l : List Op) (d : Dk) (m : Mm) (k : Nat), dpL l + 1 ≤ n → m[k]? = some (.dic (kvE d)) → inM m → d.length + szL l ≤ 900 → szL l ≤ 900 → OkL l → SOk (d, []) →
      ∃ more, x_law_entries n [.dat (.tuple (opsD l)), .loc k] m = .ok (.dat (.list ((run mkB n l (d, [])).2.map enD))) (m.set k (.dic (kvE (run mkB n l (d, [])).1)) ++ more))
    (l : List Op) (d : Dk) (m : Mm) (k : Nat) (hdp : dpL l ≤ n) (hm : m[k]? = some (.dic (kvE d))) (him : inM m) (h1 : d.length + szL l ≤ 900) (h2 : szL l ≤ 900) (hok : OkL l) (hs : SOk (d, [])) :
    ∃ more, x_law_entries (n + 1) [.dat (.tuple (opsD l)), .loc k] m = .ok (.dat (.list ((run mkB (n + 1) l (d, [])).2.map enD))) (m.set k (.dic (kvE (run mkB (n + 1) l (d, [])).1)) ++ more) := by
  have hz := szl
  have hll := sz_len l
  have hls : (l.map opD).length ≤ sizeLine := by rw [List.length_map]; omega
  have hk : k < m.length := (List.getElem?_eq_some_iff.mp hm).1
  rw [ent_tie, opsD_map]
  obtain ⟨g', m', e, M', J, rfl, rfl, b1, b2, b3⟩ := forL_inv (ws := [3, 4, 5, 6, 7]) (n := none) (dg := xgName 3) (tb := entB (x_law_entries n)) (items := l.map opD)
    (g := gE l k m.length) (m := m ++ [.lst []])
    (fun i g m' => ∃ M', Jn m k ((l.take i).foldl (stp mkB (run mkB n)) (d, [])).1 M' ∧ g = gE l k M'.length ∧ m' = M' ++ [.lst (esE ((l.take i).foldl (stp mkB (run mkB n)) (d, [])).2)] ∧
      ((l.take i).foldl (stp mkB (run mkB n)) (d, [])).1.length + szL (l.drop i) ≤ 900 ∧ ((l.take i).foldl (stp mkB (run mkB n)) (d, [])).2.length + szL (l.drop i) ≤ 900 ∧ SOk ((l.take i).foldl (stp mkB (run mkB n)) (d, [])))
    ⟨m, ⟨Nat.le_refl _, by rw [List.take_length]; exact (set_same hm).symm, him⟩, rfl, rfl, h1, by show 0 + _ ≤ _; rw [List.drop_zero]; omega, hs⟩ fun i x g m' hx hI => by
      obtain ⟨M', J, rfl, rfl, b1, b2, b3⟩ := hI
      have hil : i < (l.map opD).length := (List.getElem?_eq_some_iff.mp hx).1
      rw [List.length_map] at hil
      have hsq : l[i]? = some l[i] := List.getElem?_eq_getElem hil
      rw [List.getElem?_map, hsq] at hx
      generalize l[i] = x0 at hsq hx
      obtain rfl : opD x0 = x := Option.some.inj hx
      have htk : l.take (i + 1) = l.take i ++ [x0] := by rw [List.take_add_one, hsq]; rfl
      have hxm := List.mem_of_getElem? hsq
      have hox := okL_mem hok hxm
      have hsd := sz_drop hsq
      have hdx := dp_mem hxm
      have hp := sz_pos x0
      rw [hsd] at b1 b2
      have hfo : (l.take (i + 1)).foldl (stp mkB (run mkB n)) (d, []) = stp mkB (run mkB n) ((l.take i).foldl (stp mkB (run mkB n)) (d, [])) x0 := by rw [htk, List.foldl_append]; rfl
      rw [hfo]
      generalize (l.take i).foldl (stp mkB (run mkB n)) (d, []) = s at J b1 b2 b3
      obtain ⟨d1, es⟩ := s
      obtain ⟨⟨c1, c2⟩, c3⟩ := stp_small (mk := mkB) good_B (r := run mkB n) (run_small good_B n) (s := (d1, es)) b3.1 x0
      dsimp only at b1 b2
      obtain ⟨g', m2, e, M2, J2, e2, e3⟩ := ent_step (l := l) (d := d1) (es := es) hk J x0 (fun t y no q => by
        subst q
        rw [OkO] at hox
        rw [dpO] at hdx
        rw [szO] at b1 b2
        refine ⟨hox.1, fun b hb m hm him => ?_⟩
        have s0 : SOk (d1, []) := ⟨b3.1, b3.2.1, fun e he => absurd he List.not_mem_nil⟩
        have fin : dpL b + 1 ≤ n → szL b ≤ szL y + szL no → OkL b → ∃ more, x_law_entries n [.dat (.tuple (opsD b)), .loc k] m = .ok (.dat (.list ((run mkB n b (d1, [])).2.map enD))) (m.set k (.dic (kvE (run mkB n b (d1, [])).1)) ++ more) ∧ (run mkB n b (d1, [])).2.length ≤ 900 := fun f1 f2 f3 => by
          obtain ⟨more, q⟩ := hr b d1 m k f1 hm him (by omega) (by omega) f3 s0
          have := (run_small good_B n b (d1, []) b3.1).1.2
          have z : ([] : List En).length = 0 := rfl
          dsimp only at this
          exact ⟨more, q, by omega⟩
        rcases hb with rfl | rfl
        · exact fin (by omega) (by omega) hox.2.1
        · exact fin (by omega) (by omega) hox.2.2) b3.2.1 (by omega) (by omega)
      refine ⟨g', m2, e, M2, J2, e3, e2, ?_, ?_, stp_ok good_B (fun l s => run_ok good_B n l s) b3 hox⟩
      · dsimp only at c1; omega
      · dsimp only at c2; omega
  rw [List.length_map] at e J b1 b2 b3
  rw [List.take_length] at e J
  have hrun : run mkB (n + 1) l (d, []) = l.foldl (stp mkB (run mkB n)) (d, []) := rfl
  rw [← hrun] at e J
  generalize run mkB (n + 1) l (d, []) = s at e J
  obtain ⟨d', es⟩ := s
  have hq : (M' ++ [OD.lst (esE es)])[M'.length]? = some (.lst (esE es)) := by rw [List.getElem?_append_right (Nat.le_refl _), Nat.sub_self]; rfl
  have hkn : ¬ k = M'.length := by have := J.le; omega
  refine ⟨M'.drop m.length ++ [.gone], ?_⟩
  have hM : m.set k (.dic (kvE d')) ++ (M'.drop m.length ++ [OD.gone]) = M' ++ [.gone] := by
    rw [← J.tk, ← List.append_assoc, List.take_append_drop]
  rw [hM]
  have hfr : ∀ dd, ((M' ++ [OD.lst (esE es)]).set M'.length .gone).map (frO M'.length dd) = M' ++ [.gone] := fun dd => fr_tail J.im
  simp (disch := first | exact hls | first | omega | (simp only [List.length_cons, List.length_nil, Int.reduceToNat]; omega) | decide +kernel) only [xX, e, slotL, hq, hfr, frG, frE, hkn, if_false, if_true]
theorem ent_ok : ∀ (n : Nat) (l : List Op) (d : Dk) (m : Mm) (k : Nat), dpL l ≤ n → m[k]? = some (.dic (kvE d)) → inM m → d.length + szL l ≤ 900 → szL l ≤ 900 → OkL l → SOk (d, []) →
    ∃ more, x_law_entries (n + 1) [.dat (.tuple (opsD l)), .loc k] m = .ok (.dat (.list ((run mkB (n + 1) l (d, [])).2.map enD))) (m.set k (.dic (kvE (run mkB (n + 1) l (d, [])).1)) ++ more)
  | 0, l, d, m, k, h0, h1, h2, h3, h4, h5, h6 => ent_all (fun l d m k h => absurd h (by omega)) l d m k h0 h1 h2 h3 h4 h5 h6
  | n + 1, l, d, m, k, h0, h1, h2, h3, h4, h5, h6 => ent_all (fun l d m k h => ent_ok n l d m k (by omega)) l d m k h0 h1 h2 h3 h4 h5 h6
end LL
/-! the deck of a law: made, drawn from -/
namespace LL
open PySem PySem.Spec PyProof.Rows L2 DL
/-- what is known of the deck's numbers -/
structure Dc (c : List Int) (i j : Int) : Prop where
  c : c.length ≤ 63
  i0 : 0 ≤ i
  i1 : i ≤ 2 ^ 40
  j0 : 0 ≤ j
theorem draw_ok {c : List Int} {n i j : Int} (hn : 0 < n ∧ n < 1073741824) (D : Dc c i j) (hj : j < 2 ^ 40) :
    ∃ r c', x_law_draw [.loc 1, .dat (.int n)] (deckX c i j) = .ok (.dat (.int r)) (deckX c' i (j + 1)) ∧ (0 ≤ r ∧ r < n) ∧ Dc c' i (j + 1) := by
  have hz := szl
  obtain ⟨hc, h10, h11, hj0⟩ := D
  rcases last_or c with rfl | ⟨c0, x, rfl⟩
  · unfold x_law_draw y_law_draw deckX
    simp (disch := omega) only [xX]
    exact ⟨_, [], rfl, ⟨Int.emod_nonneg _ (by omega), Int.emod_lt_of_pos _ hn.1⟩, ⟨by decide, h10, h11, by omega⟩⟩
  · rw [List.length_append, List.length_singleton] at hc
    unfold x_law_draw y_law_draw deckX
    simp (disch := omega) only [xX, deck_pop, deck_drop, emp_app]
    by_cases hb : (10 : Int) ^ (18 : Int).toNat ≤ x
    · have hx : 0 ≤ x := by
        have e : (10 : Int) ^ (18 : Int).toNat = 1000000000000000000 := rfl
        omega
      have hl : ((c0.map PyData.int).map E.dat).length < sizeLine := by rw [List.length_map, List.length_map]; omega
      simp (disch := first | omega | exact hl) only [xX, hb, deck_app]
      exact ⟨_, _, rfl, ⟨Int.emod_nonneg _ (by omega), Int.emod_lt_of_pos _ hn.1⟩, ⟨by rw [List.length_append, List.length_singleton]; omega, h10, h11, by omega⟩⟩
    · simp (disch := omega) only [xX, hb, decide_false]
      exact ⟨_, c0, rfl, ⟨Int.emod_nonneg _ (by omega), Int.emod_lt_of_pos _ hn.1⟩, ⟨by omega, h10, h11, by omega⟩⟩
/-- a draw below n, called -/
theorem draw_at {c : List Int} {n i j : Int} (hn : 0 < n ∧ n < 1073741824) (D : Dc c i j) (hj : j < 2 ^ 40) :
    ∃ r c', (kCallN 2 2 x_law_draw [.loc 1, .dat (.int n)] (deckX c i j) = .ok (.dat (.int r)) (deckX c' i (j + 1)) ∧ ∀ rest, kCallN 2 2 x_law_draw [.loc 1, .dat (.int n)] (deckX c i j ++ rest) = .ok (.dat (.int r)) (deckX c' i (j + 1) ++ rest)) ∧ (0 ≤ r ∧ r < n) ∧ Dc c' i (j + 1) := by
  obtain ⟨r, c', h, hr, D'⟩ := draw_ok hn D hj
  exact ⟨r, c', call2' (more := []) rfl rfl (by rw [List.append_nil]; exact h), hr, D'⟩
theorem pick_ok {c : List Int} {l : List PyData} {i j : Int} (hl : 0 < l.length ∧ l.length < 100000) (D : Dc c i j) (hj : j < 2 ^ 40) :
    ∃ d c', x_law_pick [.loc 1, .dat (.list l)] (deckX c i j) = .ok (.dat d) (deckX c' i (j + 1)) ∧ d ∈ l ∧ Dc c' i (j + 1) := by
  have hz := szl
  obtain ⟨r, c', h, hr, D'⟩ := draw_at (n := (l.length : Int)) ⟨by omega, by omega⟩ D hj
  obtain ⟨d, hd, ha⟩ := atI_some (l := l) (i := r) hr.1 hr.2
  unfold x_law_pick y_law_pick
  simp (disch := omega) only [xX, h, ha]
  exact ⟨d, c', rfl, hd, D'⟩
theorem pick_at {c : List Int} {l : List PyData} {i j : Int} (hl : 0 < l.length ∧ l.length < 100000) (D : Dc c i j) (hj : j < 2 ^ 40) :
    ∃ d c', (kCallN 2 2 x_law_pick [.loc 1, .dat (.list l)] (deckX c i j) = .ok (.dat d) (deckX c' i (j + 1)) ∧ ∀ rest, kCallN 2 2 x_law_pick [.loc 1, .dat (.list l)] (deckX c i j ++ rest) = .ok (.dat d) (deckX c' i (j + 1) ++ rest)) ∧ d ∈ l ∧ Dc c' i (j + 1) := by
  obtain ⟨r, c', h, hr, D'⟩ := pick_ok hl D hj
  exact ⟨r, c', call2' (more := []) rfl rfl (by rw [List.append_nil]; exact h), hr, D'⟩
theorem deck_ok {ns : List Int} (hn : ns.length ≤ 63) : ∃ c i, x_law_deck [.scr ns] [] = .ok (.loc 1) (deckX c i 0) ∧ Dc c i 0 := by
  have hz := szl
  unfold x_law_deck y_law_deck
  simp (disch := omega) only [xX]
  have hl : (cutD ns none (some 63)).length ≤ 63 := cut63 hn _ _
  generalize cutD ns none (some 63) = c at hl
  obtain ⟨g', m', e, hI⟩ := forL_inv (ws := [3]) (n := none) (dg := xgName 3) (tb := (xAsg (xOp yMod (xOp yAdd (xOp yAdd (xOp yMul (xVar 2) (xC (.int 69621))) (xOp yMod (xVar 3) (xC (.int 2147483629)))) (xC (.int 41))) (xC (.int 2147483587))) (xgName 2))) (items := c.map PyData.int) (g := [some (.scr ns), some (.dat (.list (c.map .int))), some (.dat (.int 11003)), none]) (m := [])
    (fun k g m => ∃ t : Int, g = [some (.scr ns), some (.dat (.list (c.map .int))), some (.dat (.int t)), none] ∧ m = [] ∧ 0 ≤ t ∧ t ≤ 2 ^ 40) ⟨_, rfl, rfl, by decide, by decide⟩ fun k x g m hx hI => by
      obtain ⟨t, rfl, rfl, h0, h1⟩ := hI
      obtain ⟨z, _, rfl⟩ := List.mem_map.mp (List.mem_of_getElem? hx)
      simp (disch := omega) only [xX]
      exact ⟨_, _, rfl, _, rfl, rfl, by omega, by omega⟩
  obtain ⟨t, rfl, rfl, h0, h1⟩ := hI
  rw [e]
  simp (disch := omega) only [xX]
  refine ⟨c.reverse, t, ?_, ⟨by rw [List.length_reverse]; exact hl, h0, h1, Int.le_refl _⟩⟩
  unfold deckX
  simp only [List.map_reverse]
end LL
/-! the kit: names and texts -/
namespace LL
open PySem PySem.Spec PyProof.Rows L2 DL
def nmW : List PyData := (Txt.split "write copy rename delete sync flush if is exists same put move remove none" " ").map .str
theorem nmW_sl : ("write copy rename delete sync flush if is exists same put move remove none" : Str).length ≤ 100 := by decide +kernel
theorem nmL_sl : ("abcdefghijklmnopqrstuvwxyz" : Str).length ≤ 26 := by decide +kernel
theorem nmC_sl : ("abcdef" : Str).length ≤ 6 := by decide +kernel
theorem nmA_sl : ("ab" : Str).length ≤ 2 := by decide +kernel
theorem nmW_len : nmW.length = 14 := by decide +kernel
def nmL (f k : Int) : Nat := (atI ("abcdefghijklmnopqrstuvwxyz" : Str).cps.toList ((f + 7 * k) % 26)).getD 0
def nmV (f k : Int) : PyData := (atI nmW ((f + 3 * k) % 14)).getD .none
def nmN (w f k : Int) : PyData := (atI [.str ⟨#[nmL f k]⟩, nmV f k, .str ("ab" ++ cutS "abcdef" none (some k))] w).getD .none
theorem nmL_at (f k : Int) : atI ("abcdefghijklmnopqrstuvwxyz" : Str).cps.toList ((f + 7 * k) % 26) = some (nmL f k) := by
  obtain ⟨x, _, e⟩ := atI_some (l := ("abcdefghijklmnopqrstuvwxyz" : Str).cps.toList) (i := (f + 7 * k) % 26) (by omega) (by show _ < (26 : Int); omega)
  unfold nmL
  rw [e]
  rfl
theorem nmV_at (f k : Int) : atI nmW ((f + 3 * k) % 14) = some (nmV f k) := by
  obtain ⟨x, _, e⟩ := atI_some (l := nmW) (i := (f + 3 * k) % 14) (by omega) (by rw [nmW_len]; omega)
  unfold nmV
  rw [e]
  rfl
theorem nmL_sz : ("abcdefghijklmnopqrstuvwxyz" : Str).length ≤ sizeLine := Nat.le_trans nmL_sl (by decide)
theorem nmC_sz : ("abcdef" : Str).length ≤ sizeLine := Nat.le_trans nmC_sl (by decide)
theorem nmA_le (k : Int) : ("ab" : Str).length + (cutS "abcdef" none (some k)).length ≤ sizeLine := by
  have h := Nat.le_trans (cut_len ("abcdef" : Str).cps.toList none (some k)) nmC_sl
  have h' : (cutS "abcdef" none (some k)).length ≤ 6 := h
  have h1 := nmA_sl
  have hz := szl
  generalize (cutS "abcdef" none (some k)).length = u at h' ⊢
  generalize ("ab" : Str).length = v at h1 ⊢
  clear h
  omega
theorem nmN_at {w : Int} (f k : Int) (h : 0 ≤ w ∧ w < 3) : atI [.str ⟨#[nmL f k]⟩, nmV f k, .str ("ab" ++ cutS "abcdef" none (some k))] w = some (nmN w f k) := by
  obtain ⟨x, _, e⟩ := atI_some (l := [PyData.str ⟨#[nmL f k]⟩, nmV f k, .str ("ab" ++ cutS "abcdef" none (some k))]) (i := w) h.1 h.2
  unfold nmN
  rw [e]
  rfl
theorem nm_chk : ((List.range 3).all fun w => (List.range 26).all fun f => (List.range 5).all fun k => plB (nmN w f k) && plB (.str (Txt.upper (strOf (nmN w f k)))) && decide ((Txt.upper (strOf (nmN w f k))).length ≤ 20)) = true := by decide +kernel
theorem nm_dis : ((List.range 3).all fun w => (List.range 26).all fun f => decide ((List.range 5).map fun (k : Nat) => strOf (nmN w f k)).Nodup) = true := by decide +kernel
theorem nm_at {w f : Int} {k : Nat} (h : 0 ≤ w ∧ w < 3) (h' : 0 ≤ f ∧ f < 26) (h2 : k < 5) : ∃ s, nmN w f k = .str s ∧ Pl s ∧ Pl (Txt.upper s) := by
  have e1 : ((w.toNat : Nat) : Int) = w := by omega
  have e2 : ((f.toNat : Nat) : Int) = f := by omega
  have := List.all_eq_true.mp (List.all_eq_true.mp (List.all_eq_true.mp nm_chk w.toNat (List.mem_range.mpr (by omega))) f.toNat (List.mem_range.mpr (by omega))) k (List.mem_range.mpr h2)
  rw [e1, e2, Bool.and_eq_true, Bool.and_eq_true] at this
  obtain ⟨s, e, p⟩ := plB_of this.1.1
  have h3 := this.1.2
  rw [e] at h3
  obtain ⟨u, eu, pu⟩ := plB_of h3
  cases eu
  exact ⟨s, e, p, pu⟩
theorem nm_nd {w f : Int} (h : 0 ≤ w ∧ w < 3) (h' : 0 ≤ f ∧ f < 26) {n : Nat} (hn : n ≤ 5) : ((List.range n).map fun (k : Nat) => strOf (nmN w f k)).Nodup := by
  have e1 : ((w.toNat : Nat) : Int) = w := by omega
  have e2 : ((f.toNat : Nat) : Int) = f := by omega
  have := of_decide_eq_true (List.all_eq_true.mp (List.all_eq_true.mp nm_dis w.toNat (List.mem_range.mpr (by omega))) f.toNat (List.mem_range.mpr (by omega)))
  rw [e1, e2] at this
  refine List.Sublist.nodup (List.Sublist.map _ ?_) this
  rw [show List.range n = (List.range 5).take n from by rw [List.take_range, Nat.min_eq_left hn]]
  exact List.take_sublist ..
theorem if12 {α : Type} {a b : α} : (if (1 : Nat) = 2 then a else b) = b := if_neg (by decide)
theorem kit_keys {a b : PyData} : kvX [(.str "names", a), (.str "texts", b)] = some [(.inr "names", a), (.inr "texts", b)] := rfl
theorem kit_nd {a b : PyData} : decide (List.map (fun x : Key × PyData => x.1) [(Sum.inr ("names" : Str), a), (Sum.inr ("texts" : Str), b)]).Nodup = true := kit_nd0
where
  kit_nd0 : decide ([Sum.inr ("names" : Str), Sum.inr ("texts" : Str)] : List Key).Nodup = true := by decide +kernel
/-- the kit as it is made -/
def kitM (ss ts : List Str) : OD := dicE [(.inr "names", .list (ss.map .str)), (.inr "texts", .list (ts.map .str))]
theorem tx_pl : ∀ s : Str, s ∈ (["X", "Y", "A", "AA", "WRITE", "DONE", "ZZZZZZZZ", "Q"] : List Str) → Pl s := by unfold Pl; decide +kernel
theorem kit_ok {c : List Int} {n : Nat} {i j : Int} (hn : 3 ≤ n ∧ n ≤ 5) (D : Dc c i j) (hj : j < 2 ^ 39) :
    ∃ (ss ts : List Str) (c' : List Int), x_law_kit [.loc 1, .dat (.int n)] (deckX c i j) = .ok (.loc 3) (deckX c' i (j + 3) ++ [.gone, kitM ss ts]) ∧ ss.length = n ∧ ss.Nodup ∧ (∀ s ∈ ss, Pl s) ∧ ts.length = 2 ∧ (∀ s ∈ ts, Pl s) ∧ Dc c' i (j + 3) := by
  have hz := szl
  obtain ⟨w, c1, h1, hw, D1⟩ := draw_at (n := 3) ⟨by decide, by decide⟩ D (by omega)
  obtain ⟨f, c2, h2, hf, D2⟩ := draw_at (n := 26) ⟨by decide, by decide⟩ D1 (by omega)
  have e2 : j + 1 + 1 = j + 2 := by omega
  rw [e2] at h2 D2
  unfold x_law_kit y_law_kit
  have hsp : ySplit "write copy rename delete sync flush if is exists same put move remove none" (.str " ") = some (.list nmW) := ySplit_of (by decide) (by have := nmW_sl; have hz := szl; exact Nat.le_trans (Nat.add_le_add_right this 2) (by decide))
  simp (disch := first | omega | (simp only [List.length_cons, List.length_nil, Int.reduceToNat]; omega)) only [xX, h1.1, h1.2, h2.1, h2.2, hsp, deckX_len]
  obtain ⟨g', m', e, hI⟩ := forL_inv (ws := [6, 7]) (n := none) (dg := xgName 6) (tb := (xSeq (xAsg (xIx (xC (.str "abcdefghijklmnopqrstuvwxyz")) (xOp yMod (xOp yAdd (xVar 3) (xOp yMul (xC (.int 7)) (xVar 6))) (xC (.int 26)))) (xgName 7)) 
    (xDrop (xApp (xVar 5) (xIx (xLst (xCons (xVar 7) (xCons (xIx (xVar 4) (xOp yMod (xOp yAdd (xVar 3) (xOp yMul (xC (.int 3)) (xVar 6))) (xC (.int 14)))) (xCons (xOp yAdd (xC (.str "ab")) (xSl (xC (.str "abcdef")) xNoPart (xPart (xVar 6)))) xNil)))) (xVar 2)))))) (items := rangeD 0 (n : Int).toNat)
    (g := [some (.loc 1), some (.dat (.int n)), some (.dat (.int w)), some (.dat (.int f)), some (.dat (.list nmW)), some (.loc 2), none, none, none]) (m := deckX c2 i (j + 2) ++ [.lst []])
    (fun k g m => g = [some (.loc 1), some (.dat (.int n)), some (.dat (.int w)), some (.dat (.int f)), some (.dat (.list nmW)), some (.loc 2), none, none, none] ∧ m = deckX c2 i (j + 2) ++ [.lst (((List.range k).map fun (t : Nat) => nmN w f t).map E.dat)]) ⟨rfl, rfl⟩ fun k x g m hx hI => by
      obtain ⟨rfl, rfl⟩ := hI
      obtain ⟨hk, rfl⟩ := rangeD_get hx
      rw [Int.zero_add]
      have hL := nmL_at f k
      have hV := nmV_at f k
      have hN := nmN_at (w := w) f k hw
      have hs : (((List.range k).map fun (t : Nat) => nmN w f t).map E.dat).length < sizeLine := by rw [List.length_map, List.length_map, List.length_range]; omega
      have hap : ((List.range k).map fun (t : Nat) => nmN w f t) ++ [nmN w f (k : Int)] = (List.range (k + 1)).map fun (t : Nat) => nmN w f t := by
        rw [List.range_succ, List.map_append]
        rfl
      simp (disch := first | exact nmL_sz | exact nmC_sz | exact nmA_le _ | exact hs | first | omega | (simp only [List.length_cons, List.length_nil, Int.reduceToNat]; omega)) only [xX, hL, hV, hN, deckX_g2, deckX_s2, hap]
      exact ⟨_, _, rfl, rfl, rfl⟩
  obtain ⟨rfl, rfl⟩ := hI
  rw [e, rangeD_len]
  have hnn : (n : Int).toNat = n := by omega
  rw [hnn]
  have hex : ∃ (s0 : Str) (ss : List Str), ((List.range n).map fun (t : Nat) => nmN w f t) = (s0 :: ss).map .str ∧ (s0 :: ss).length = n ∧ (s0 :: ss).Nodup ∧ (∀ s ∈ s0 :: ss, Pl s) ∧ Pl (Txt.upper s0) := by
    have e0 : ((List.range n).map fun (t : Nat) => nmN w f t) = ((List.range n).map fun (t : Nat) => strOf (nmN w f t)).map .str := by
      rw [List.map_map]
      apply List.map_congr_left
      intro t ht
      obtain ⟨s, e, _⟩ := nm_at (k := t) hw hf (by have := List.mem_range.mp ht; omega)
      show nmN w f t = .str (strOf (nmN w f t))
      rw [e]
      rfl
    have nd := nm_nd hw hf hn.2
    have hl : ((List.range n).map fun (t : Nat) => strOf (nmN w f t)).length = n := by rw [List.length_map, List.length_range]
    have hp : ∀ s ∈ (List.range n).map (fun (t : Nat) => strOf (nmN w f t)), Pl s ∧ Pl (Txt.upper s) := fun s hs => by
      obtain ⟨t, ht, rfl⟩ := List.mem_map.mp hs
      obtain ⟨s, e, hp, hu⟩ := nm_at (k := t) hw hf (by have := List.mem_range.mp ht; omega)
      rw [e]
      exact ⟨hp, hu⟩
    rw [e0]
    generalize (List.range n).map (fun (t : Nat) => strOf (nmN w f t)) = l at nd hl hp
    cases l with
    | nil => simp at hl; omega
    | cons s0 ss => exact ⟨s0, ss, rfl, hl, nd, fun s hs => (hp s hs).1, (hp s0 List.mem_cons_self).2⟩
  obtain ⟨s0, ss, e3, hl, nd, hp, hu⟩ := hex
  rw [e3]
  have hul : s0.length ≤ 5592405 := Nat.le_trans (hp s0 List.mem_cons_self).1 (by decide)
  obtain ⟨v, c3, h3, hv, D3⟩ := pick_at (l := [.list [.str "X", .str "Y"], .list [.str "A", .str "AA"], .list [.str "WRITE", .str "DONE"], .list [.str (Txt.upper s0), .str "ZZZZZZZZ"]]) ⟨by show 0 < 4; decide, by show 4 < 100000; decide⟩ D2 (by omega)
  have e4 : j + 2 + 1 = j + 3 := by omega
  rw [e4] at h3 D3
  have hvt : ∃ ts : List Str, v = .list (ts.map .str) ∧ ts.length = 2 ∧ ∀ s ∈ ts, Pl s := by
    have h2 : ∀ a b : Str, Pl a → Pl b → ∃ ts : List Str, PyData.list [.str a, .str b] = .list (ts.map .str) ∧ ts.length = 2 ∧ ∀ s ∈ ts, Pl s := fun a b ha hb => ⟨[a, b], rfl, rfl, fun s hs => by
      rcases List.mem_cons.mp hs with e | e
      · rw [e]; exact ha
      · rw [List.mem_singleton.mp e]; exact hb⟩
    simp only [List.mem_cons, List.not_mem_nil, or_false] at hv
    rcases hv with rfl | rfl | rfl | rfl
    · exact h2 _ _ (tx_pl _ (by simp)) (tx_pl _ (by simp))
    · exact h2 _ _ (tx_pl _ (by simp)) (tx_pl _ (by simp))
    · exact h2 _ _ (tx_pl _ (by simp)) (tx_pl _ (by simp))
    · exact h2 _ _ hu (tx_pl _ (by simp))
  obtain ⟨ts, rfl, htl, htp⟩ := hvt
  refine ⟨s0 :: ss, ts, c3, ?_, hl, nd, hp, htl, htp, D3⟩
  simp (disch := first | omega | (simp only [List.length_cons, List.length_nil, Int.reduceToNat]; omega)) only [xX, deckX_g2, deckX_s2, frG, frE, deckX_fr, frO, if_true]
  rw [deckX_frz (by decide)]
  have hul' : decide (s0.length ≤ 5592405) = true := decide_eq_true hul
  simp (disch := first | omega | (simp only [List.length_cons, List.length_nil, Int.reduceToNat]; omega)) only [xX, if12, Option.map_none, h3.2, kit_keys, kit_nd]
  rfl
end LL
/-! an operation without bodies; the kit is a dict of the ledger -/
namespace LL
open PySem PySem.Spec PyProof.Rows L2 DL
def kitL (ss ts : List Str) (n : Int) (ext : List (Key × E)) : List (Key × E) := [(.inr "names", .dat (.list (ss.map .str))), (.inr "texts", .dat (.list (ts.map .str))), (.inr "left", .dat (.int n))] ++ ext
section
variable {ss ts : List Str} {n : Int} {ext : List (Key × E)}
theorem kl_n : lookD (kitL ss ts n ext) (.inr "names") = some (.dat (.list (ss.map .str))) := by rfl
theorem kl_t : lookD (kitL ss ts n ext) (.inr "texts") = some (.dat (.list (ts.map .str))) := by rfl
theorem kl_l : lookD (kitL ss ts n ext) (.inr "left") = some (.dat (.int n)) := by rfl
theorem kl_x {k : Str} (h : ¬ (k = "names" ∨ k = "texts" ∨ k = "left")) : lookD (kitL ss ts n ext) (.inr k) = lookD ext (.inr k) := by
  have h1 : ¬ (Sum.inr ("names" : Str) : Key) = Sum.inr k := fun e => h (Or.inl (Sum.inr.inj e).symm)
  have h2 : ¬ (Sum.inr ("texts" : Str) : Key) = Sum.inr k := fun e => h (Or.inr (Or.inl (Sum.inr.inj e).symm))
  have h3 : ¬ (Sum.inr ("left" : Str) : Key) = Sum.inr k := fun e => h (Or.inr (Or.inr (Sum.inr.inj e).symm))
  show (if _ then _ else if _ then _ else if _ then _ else lookD ext (.inr k)) = _
  rw [if_neg h1, if_neg h2, if_neg h3]
theorem kl_len : (kitL ss ts n ext).length = ext.length + 3 := rfl
/-- what the kit has besides -/
structure Ext (ext : List (Key × E)) (ws : List Str) : Prop where
  le : ext.length ≤ 100
  w : lookD ext (.inr "words") = some (.dat (.list (ws.map .str)))
  nl : ∀ p ∈ ext, ¬ p.1 = .inr "left"
  da : ∀ p ∈ ext, ∃ d, p.2 = .dat d
theorem kl_w {ws : List Str} (X : Ext ext ws) : lookD (kitL ss ts n ext) (.inr "words") = some (.dat (.list (ws.map .str))) := by rw [kl_x (by decide +kernel), X.w]
theorem kl_put {ws : List Str} {n' : Int} (X : Ext ext ws) : putE (kitL ss ts n ext) (.inr "left") (.dat (.int n')) = kitL ss ts n' ext := by
  have e : (kitL ss ts n ext).any (fun kv => decide (kv.1 = Sum.inr ("left" : Str))) = true := by
    show (_ || (_ || (decide ((Sum.inr ("left" : Str) : Key) = Sum.inr ("left" : Str)) || _))) = true
    rw [decide_eq_true rfl, Bool.true_or, Bool.or_true, Bool.or_true]
  unfold putE
  rw [if_pos e]
  unfold kitL
  rw [List.map_append]
  congr 1
  conv => rhs; rw [← List.map_id ext]
  exact List.map_congr_left fun p hp => by rw [if_neg (X.nl p hp)]; rfl
theorem kl_in {ws : List Str} (X : Ext ext ws) (q : Nat) : inO q (.dic (kitL ss ts n ext)) = true := by
  show (kitL ss ts n ext).all (fun p => inE q p.2) = true
  unfold kitL
  rw [List.all_append]
  have h : ext.all (fun p => inE q p.2) = true := List.all_eq_true.mpr fun p hp => by
    obtain ⟨d, e⟩ := X.da p hp
    rw [e]
    rfl
  rw [h]
  rfl
end
theorem deckX_g3 {c : List Int} {i j : Int} {o p : OD} {r : List OD} : (deckX c i j ++ o :: p :: r)[3]? = some p := rfl
theorem deckX_s3 {c : List Int} {i j : Int} {o p o' : OD} {r : List OD} : (deckX c i j ++ o :: p :: r).set 3 o' = deckX c i j ++ o :: o' :: r := rfl
theorem inM_dk {c : List Int} {i j : Int} {rest : List OD} (h : rest.all (inO (rest.length + 2)) = true) : inM (deckX c i j ++ rest) := by
  show (deckX c i j ++ rest).all (inO (deckX c i j ++ rest).length) = true
  rw [List.all_append, deckX_len1, h, Bool.and_true]
  unfold deckX
  show (inO _ (.lst _) && (inO _ (.lst _) && true)) = true
  rw [show ∀ q (l : List Int), inO q (.lst ((l.map PyData.int).map E.dat)) = true from fun q l => List.all_eq_true.mpr fun e he => by
    obtain ⟨x, _, rfl⟩ := List.mem_map.mp he
    rfl]
  show (true && ((decide (0 < rest.length + 2) && (true && (true && true))) && true)) = true
  rw [decide_eq_true (by omega)]
  rfl
theorem far_len {ss : List Str} {s : Str} (nd : ss.Nodup) (h : s ∈ ss) : (ss.filter fun x => !decide (x = s)).length = ss.length - 1 := by
  rw [← List.length_erase_of_mem h, nd.erase_eq_filter]
  congr 1

theorem word_of {ws : List Str} {v : PyData} (hv : v ∈ ws.map PyData.str) : ∃ w ∈ ws, v = .str w := by
  obtain ⟨w, h, e⟩ := List.mem_map.mp hv
  exact ⟨w, h, e.symm⟩
/-- a simple operation -/
def OpS (o : Op) : Prop := OkO o ∧ szO o = 1 ∧ dpO o = 0
/-- the words of operations -/
def opW : List Str := ["write", "copy", "rename", "delete", "sync", "flush"]
theorem oper_ok {c : List Int} {ss ts ws : List Str} {n i j : Int} {ext : List (Key × E)} {rest : List OD} (hl : 3 ≤ ss.length ∧ ss.length ≤ 5) (nd : ss.Nodup) (hp : ∀ s ∈ ss, Pl s) (htl : 0 < ts.length ∧ ts.length ≤ 10) (htp : ∀ t ∈ ts, Pl t)
    (X : Ext ext ws) (hws : 0 < ws.length ∧ ws.length ≤ 100) (hww : ∀ w ∈ ws, w ∈ opW) (hn : -1000 ≤ n ∧ n ≤ 1000) (D : Dc c i j) (hj : j < 2 ^ 39) :
    ∃ (o : Op) (c' : List Int) (j' n' : Int), x_law_operation [.loc 1, .loc 3] (deckX c i j ++ .gone :: .dic (kitL ss ts n ext) :: rest) = .ok (.dat (opD o)) (deckX c' i j' ++ .gone :: .dic (kitL ss ts n' ext) :: rest) ∧ OpS o ∧ Dc c' i j' ∧ j' ≤ j + 4 ∧ n - 1 ≤ n' ∧ n' ≤ n := by
  have hz := szl
  obtain ⟨v0, c0, h0, hv0, D0⟩ := pick_at (l := ws.map .str) (by rw [List.length_map]; omega) D (by omega)
  obtain ⟨w, hw, rfl⟩ := word_of hv0
  obtain ⟨v1, c1, h1, hv1, D1⟩ := pick_at (l := ss.map .str) (by rw [List.length_map]; omega) D0 (by omega)
  obtain ⟨one, ho, rfl⟩ := List.mem_map.mp hv1
  obtain ⟨two, c2, h2, hw2, D2⟩ := draw_at (n := (ss.length : Int) - 1) ⟨by omega, by omega⟩ D1 (by omega)
  have hfl := far_len nd ho
  obtain ⟨v3, hv3, hat⟩ := atI_some (l := (ss.filter fun x => !decide (x = one)).map PyData.str) (i := two) hw2.1 (by rw [List.length_map, hfl]; omega)
  obtain ⟨oth, hoth, rfl⟩ := List.mem_map.mp hv3
  have hoth' : oth ∈ ss := (List.mem_filter.mp hoth).1
  obtain ⟨v4, c4, h4, hv4, D4⟩ := pick_at (l := ts.map .str) (by rw [List.length_map]; omega) D2 (by omega)
  obtain ⟨tx, htx, rfl⟩ := word_of hv4
  unfold x_law_operation y_law_operation
  have hwl : (ws.map PyData.str).length ≤ sizeLine := by rw [List.length_map]; omega
  have hsl : (ss.map PyData.str).length ≤ sizeLine := by rw [List.length_map]; omega
  have htl' : (ts.map PyData.str).length ≤ sizeLine := by rw [List.length_map]; omega
  have hc : ∀ m g, g = [some (E.loc 1), some (.loc 3), some (.dat (.str w)), some (.dat (.str one)), some (.dat (.int two)), none, none] → lcL (xgName 6) (xB (xOp (yEqN true) (xVar 6) (xVar 3))) (xVar 6) g (ss.map PyData.str) m = .ok ((ss.map PyData.str).filter fun x => !decide (strOf x = one)) m := fun m g hg => by
    subst hg
    refine lcL_filter fun x hx k => ?_
    obtain ⟨s, hs, rfl⟩ := List.mem_map.mp hx
    by_cases e : s = one
    · have e1 : decide (s = one) = true := decide_eq_true e
      have e2 : (!decide (strOf (PyData.str s) = one)) = false := by show (!decide (s = one)) = false; rw [e1]; rfl
      rw [e2]
      simp (disch := first | omega | (simp only [List.length_cons, List.length_nil, Int.reduceToNat]; omega)) only [xX, e1]
    · have e1 : decide (s = one) = false := decide_eq_false e
      have e2 : (!decide (strOf (PyData.str s) = one)) = true := by show (!decide (s = one)) = true; rw [e1]; rfl
      rw [e2]
      simp (disch := first | omega | (simp only [List.length_cons, List.length_nil, Int.reduceToNat]; omega)) only [xX, e1]
  have hff : (ss.map PyData.str).filter (fun x => !decide (strOf x = one)) = (ss.filter fun x => !decide (x = one)).map PyData.str := by rw [List.filter_map]; rfl
  have hlen : ((ss.map PyData.str).length : Int) - 1 = (ss.length : Int) - 1 := by rw [List.length_map]
  have hfl2 : ((ss.filter fun x => !decide (x = one)).map PyData.str).length ≤ sizeLine := by rw [List.length_map, hfl]; omega
  have hkl : (kitL ss ts n ext).length < sizeLine := by rw [kl_len]; have := X.le; omega
  have hw' := hww w hw
  simp (disch := first | exact hwl | exact hsl | exact htl' | exact hfl2 | exact hkl | first | omega | (simp only [List.length_cons, List.length_nil, Int.reduceToNat]; omega)) only [xX, deckX_g3, kl_w X, kl_n, kl_t, kl_l, h0.2, h1.2, hlen, h2.2, hc _ _ rfl, hff, hat]
  unfold opW at hw'
  simp only [List.mem_cons, List.not_mem_nil, or_false] at hw'
  have hj3 : j + 1 + 1 + 1 + 1 = j + 4 := by omega
  rcases hw' with rfl | rfl | rfl | rfl | rfl | rfl
  · by_cases h1n : n < 1
    · have e1 : decide (n < 1) = true := decide_eq_true h1n
      refine ⟨.flush one, c2, j + 1 + 1 + 1, n, ?_, ⟨by rw [OkO]; exact (hp one ho), by rw [szO] <;> (intros; contradiction), by rw [dpO] <;> (intros; contradiction)⟩, D2, by omega, by omega, by omega⟩
      rw [opD]
      simp (disch := first | exact hkl | exact htl' | first | omega | (simp only [List.length_cons, List.length_nil, Int.reduceToNat]; omega) | decide +kernel) only [xX, wne, deckX_g3, deckX_s3, kl_l, kl_t, kl_put X, h4.2, Bool.true_or, Bool.false_or, e1]
    · have e1 : decide (n < 1) = false := decide_eq_false h1n
      refine ⟨.write one tx, c4, j + 1 + 1 + 1 + 1, n - 1, ?_, ⟨by rw [OkO]; exact ⟨hp one ho, htp tx htx⟩, by rw [szO] <;> (intros; contradiction), by rw [dpO] <;> (intros; contradiction)⟩, D4, by omega, by omega, by omega⟩
      rw [opD]
      simp (disch := first | exact hkl | exact htl' | first | omega | (simp only [List.length_cons, List.length_nil, Int.reduceToNat]; omega) | decide +kernel) only [xX, wne, deckX_g3, deckX_s3, kl_l, kl_t, kl_put X, h4.2, Bool.true_or, Bool.false_or, e1]
  · by_cases h1n : n < 1
    · have e1 : decide (n < 1) = true := decide_eq_true h1n
      refine ⟨.flush one, c2, j + 1 + 1 + 1, n, ?_, ⟨by rw [OkO]; exact (hp one ho), by rw [szO] <;> (intros; contradiction), by rw [dpO] <;> (intros; contradiction)⟩, D2, by omega, by omega, by omega⟩
      rw [opD]
      simp (disch := first | exact hkl | exact htl' | first | omega | (simp only [List.length_cons, List.length_nil, Int.reduceToNat]; omega) | decide +kernel) only [xX, wne, deckX_g3, deckX_s3, kl_l, kl_t, kl_put X, h4.2, Bool.true_or, Bool.false_or, e1]
    · have e1 : decide (n < 1) = false := decide_eq_false h1n
      refine ⟨.copy one oth, c2, j + 1 + 1 + 1, n - 1, ?_, ⟨by rw [OkO]; exact ⟨hp one ho, hp oth hoth'⟩, by rw [szO] <;> (intros; contradiction), by rw [dpO] <;> (intros; contradiction)⟩, D2, by omega, by omega, by omega⟩
      rw [opD]
      simp (disch := first | exact hkl | exact htl' | first | omega | (simp only [List.length_cons, List.length_nil, Int.reduceToNat]; omega) | decide +kernel) only [xX, wne, deckX_g3, deckX_s3, kl_l, kl_t, kl_put X, h4.2, Bool.true_or, Bool.false_or, e1]
  · by_cases h1n : n < 1
    · have e1 : decide (n < 1) = true := decide_eq_true h1n
      refine ⟨.flush one, c2, j + 1 + 1 + 1, n, ?_, ⟨by rw [OkO]; exact (hp one ho), by rw [szO] <;> (intros; contradiction), by rw [dpO] <;> (intros; contradiction)⟩, D2, by omega, by omega, by omega⟩
      rw [opD]
      simp (disch := first | exact hkl | exact htl' | first | omega | (simp only [List.length_cons, List.length_nil, Int.reduceToNat]; omega) | decide +kernel) only [xX, wne, deckX_g3, deckX_s3, kl_l, kl_t, kl_put X, h4.2, Bool.true_or, Bool.false_or, e1]
    · have e1 : decide (n < 1) = false := decide_eq_false h1n
      refine ⟨.rename one oth, c2, j + 1 + 1 + 1, n - 1, ?_, ⟨by rw [OkO]; exact ⟨hp one ho, hp oth hoth'⟩, by rw [szO] <;> (intros; contradiction), by rw [dpO] <;> (intros; contradiction)⟩, D2, by omega, by omega, by omega⟩
      rw [opD]
      simp (disch := first | exact hkl | exact htl' | first | omega | (simp only [List.length_cons, List.length_nil, Int.reduceToNat]; omega) | decide +kernel) only [xX, wne, deckX_g3, deckX_s3, kl_l, kl_t, kl_put X, h4.2, Bool.true_or, Bool.false_or, e1]
  · by_cases h1n : n < 1
    · have e1 : decide (n < 1) = true := decide_eq_true h1n
      refine ⟨.flush one, c2, j + 1 + 1 + 1, n, ?_, ⟨by rw [OkO]; exact (hp one ho), by rw [szO] <;> (intros; contradiction), by rw [dpO] <;> (intros; contradiction)⟩, D2, by omega, by omega, by omega⟩
      rw [opD]
      simp (disch := first | exact hkl | exact htl' | first | omega | (simp only [List.length_cons, List.length_nil, Int.reduceToNat]; omega) | decide +kernel) only [xX, wne, deckX_g3, deckX_s3, kl_l, kl_t, kl_put X, h4.2, Bool.true_or, Bool.false_or, e1]
    · have e1 : decide (n < 1) = false := decide_eq_false h1n
      refine ⟨.delete one, c2, j + 1 + 1 + 1, n - 1, ?_, ⟨by rw [OkO]; exact hp one ho, by rw [szO] <;> (intros; contradiction), by rw [dpO] <;> (intros; contradiction)⟩, D2, by omega, by omega, by omega⟩
      rw [opD]
      simp (disch := first | exact hkl | exact htl' | first | omega | (simp only [List.length_cons, List.length_nil, Int.reduceToNat]; omega) | decide +kernel) only [xX, wne, deckX_g3, deckX_s3, kl_l, kl_t, kl_put X, h4.2, Bool.true_or, Bool.false_or, e1]
  · refine ⟨.sync, c2, j + 1 + 1 + 1, n, ?_, ⟨by rw [OkO]; trivial, by rw [szO] <;> (intros; contradiction), by rw [dpO] <;> (intros; contradiction)⟩, D2, by omega, by omega, by omega⟩
    rw [opD]
    simp (disch := first | exact hkl | exact htl' | first | omega | (simp only [List.length_cons, List.length_nil, Int.reduceToNat]; omega) | decide +kernel) only [xX, wne, deckX_g3, deckX_s3, kl_l, kl_t, kl_put X, h4.2, Bool.true_or, Bool.false_or]
  · refine ⟨.flush one, c2, j + 1 + 1 + 1, n, ?_, ⟨by rw [OkO]; exact hp one ho, by rw [szO] <;> (intros; contradiction), by rw [dpO] <;> (intros; contradiction)⟩, D2, by omega, by omega, by omega⟩
    rw [opD]
    simp (disch := first | exact hkl | exact htl' | first | omega | (simp only [List.length_cons, List.length_nil, Int.reduceToNat]; omega) | decide +kernel) only [xX, wne, deckX_g3, deckX_s3, kl_l, kl_t, kl_put X, h4.2, Bool.true_or, Bool.false_or]
end LL
/-! a disk; the kit is a dict of the ledger -/
namespace LL
open PySem PySem.Spec PyProof.Rows L2 DL
theorem deckX_g4 {c : List Int} {i j : Int} {o p q : OD} {r : List OD} : (deckX c i j ++ o :: p :: q :: r)[4]? = some q := rfl
theorem deckX_s4 {c : List Int} {i j : Int} {o p q o' : OD} {r : List OD} : (deckX c i j ++ o :: p :: q :: r).set 4 o' = deckX c i j ++ o :: p :: o' :: r := rfl
theorem rep0 {x : PyData} : (List.replicate (if false = true then (1 : Int) else 0).toNat [x]).flatten = [] := by simp
theorem rep1 {x : PyData} : (List.replicate (if True then (1 : Int) else 0).toNat [x]).flatten = [x] := by simp
theorem rep1' {x : PyData} : (List.replicate (1 : Int).toNat [x]).flatten = [x] := by simp
theorem disk_ok {c : List Int} {ss ts ms ws : List Str} {n i j : Int} {ext : List (Key × E)} (hl : ss.length ≤ 5) (hp : ∀ s ∈ ss, Pl s) (htl : 0 < ts.length ∧ ts.length ≤ 10) (htp : ∀ t ∈ ts, Pl t) (hml : ms.length ≤ 3) (hmp : ∀ t ∈ ms, Pl t) (X : Ext ext ws) (D : Dc c i j) (hj : j < 2 ^ 39) (hj0 : 0 ≤ j) :
    ∃ (d : Dk) (c' : List Int) (j' : Int) (more : Mm), x_law_disk [.loc 1, .loc 3, .dat (.list (ms.map .str))] (deckX c i j ++ [.gone, .dic (kitL ss ts n ext)]) = .ok (.dat (diskD d)) (deckX c' i j' ++ .gone :: .dic (kitL ss ts n ext) :: more) ∧ (ksD d).Nodup ∧ Ents d ∧ d.length ≤ 8 ∧ Dc c' i j' ∧ j' ≤ j + 16 := by
  have hz := szl
  have hbl : (ss ++ ms).length < 64 := by rw [List.length_append]; omega
  generalize hL : sortS (onceL (ss ++ ms)) = L
  have hLm : ∀ s ∈ L, Pl s := fun s hs => by
    rw [← hL] at hs
    have h2 := mem_onceL.mp ((sortB_perm leS _).mem_iff.mp hs)
    rcases List.mem_append.mp h2 with h | h
    · exact hp s h
    · exact hmp s h
  have hLn : L.Nodup := by rw [← hL]; exact (sortB_perm leS _).nodup_iff.mpr (nd_onceL _)
  have once_len : ∀ l : List Str, (onceL l).length ≤ l.length := fun l => by
    induction l with
    | nil => exact Nat.le_refl _
    | cons x l ih =>
      unfold onceL
      split
      · rw [List.length_cons]; omega
      · rw [List.length_cons, List.length_cons]; omega
  have hLl : L.length ≤ 8 := by
    have h1 : (sortS (onceL (ss ++ ms))).length = (onceL (ss ++ ms)).length := (sortB_perm leS _).length_eq
    rw [← hL, h1]
    have h2 := once_len (ss ++ ms)
    rw [List.length_append] at h2
    omega
  have hss : ss.map PyData.str ++ ms.map PyData.str = (ss ++ ms).map .str := List.map_append.symm
  have hso := ySortSet_strs hbl
  rw [hL] at hso
  have hsum : (ss.map PyData.str).length + (ms.map PyData.str).length ≤ sizeLine := by rw [List.length_map, List.length_map]; omega
  have hLL : (L.map PyData.str).length ≤ sizeLine := by rw [List.length_map]; omega
  unfold x_law_disk y_law_disk
  have hA : deckX c i j ++ [OD.gone, .dic (kitL ss ts n ext)] ++ [OD.lst []] = deckX c i j ++ [OD.gone, .dic (kitL ss ts n ext), .lst []] := by rw [List.append_assoc]; rfl
  have hLen : (deckX c i j ++ [OD.gone, .dic (kitL ss ts n ext)]).length = 4 := rfl
  simp (disch := first | exact hsum | exact hLL | first | omega | (simp only [List.length_cons, List.length_nil, Int.reduceToNat]; omega)) only [xX, hA, hLen, deckX_g3, kl_n, hss, hso]
  obtain ⟨g', m', e, d, c5, j5, rfl, rfl, hsub, hdo, D5, hj5⟩ := forL_inv (ws := [4, 5]) (n := none) (dg := xgName 4) (tb := (xSeq (xAsg (xCallN 2 2 x_law_pick (xCons (xVar 0) (xCons (xOp yAdd (xIx (xVar 1) (xC (.str "texts"))) (xLst (xCons (xC (.int 0)) (xCons (xC (.int 1)) (xCons (xC (.int 1)) (xCons (xOp yPow (xC (.int 10)) (xC (.int 39))) (xCons (xCallN 2 2 x_law_draw (xCons (xVar 0) (xCons (xC (.int 50)) xNil))) (xCons (xC (.str "Q")) (xCons (xC .none) (xCons (xC .none) (xCons (xC .none) xNil))))))))))) xNil))) (xgName 5)) 
    (xDrop (xExt (xVar 3) (xOp yMul (xLst (xCons (xTup (xCons (xVar 4) (xCons (xVar 5) xNil))) xNil)) (xCB yInt (xCons (xOp (yIsN true) (xVar 5) (xC .none)) xNil)))))))
    (items := L.map .str) (g := [some (.loc 1), some (.loc 3), some (.dat (.list (ms.map .str))), some (.loc 4), none, none]) (m := deckX c i j ++ [.gone, .dic (kitL ss ts n ext), .lst []])
    (fun q g m => ∃ (d : Dk) (c5 : List Int) (j5 : Int), g = [some (.loc 1), some (.loc 3), some (.dat (.list (ms.map .str))), some (.loc 4), none, none] ∧ m = deckX c5 i j5 ++ [.gone, .dic (kitL ss ts n ext), .lst ((d.map entD).map E.dat)] ∧ (ksD d).Sublist (L.take q) ∧ Ents d ∧ Dc c5 i j5 ∧ j5 ≤ j + 2 * (q : Int))
    ⟨[], c, j, rfl, rfl, by rw [List.take_zero]; exact List.Sublist.refl _, fun _ h => absurd h List.not_mem_nil, D, by omega⟩ fun q x g m hx hI => by
      obtain ⟨d, c5, j5, rfl, rfl, hsub, hdo, D5, hj5⟩ := hI
      have hql : q < (L.map PyData.str).length := (List.getElem?_eq_some_iff.mp hx).1
      rw [List.length_map] at hql
      have hsq : L[q]? = some L[q] := List.getElem?_eq_getElem hql
      rw [List.getElem?_map, hsq] at hx
      generalize L[q] = s at hsq hx
      obtain rfl : PyData.str s = x := Option.some.inj hx
      have hsP : Pl s := hLm s (List.mem_of_getElem? hsq)
      have htk : L.take (q + 1) = L.take q ++ [s] := by rw [List.take_add_one, hsq]; rfl
      obtain ⟨a, c6, h6, hw6, D6⟩ := draw_at (n := 50) ⟨by decide, by decide⟩ D5 (by omega)
      obtain ⟨v, c7, h7, hv, D7⟩ := pick_at (l := ts.map .str ++ [.int 0, .int 1, .int 1, .int 1000000000000000000000000000000000000000, .int a, .str "Q", .none, .none, .none]) (by rw [List.length_append, List.length_map]; show 0 < ts.length + 9 ∧ ts.length + 9 < 100000; omega) D6 (by omega)
      have hsz : (ts.map PyData.str).length + ([.int 0, .int 1, .int 1, .int 1000000000000000000000000000000000000000, .int a, .str "Q", .none, .none, .none] : List PyData).length ≤ sizeLine := by rw [List.length_map]; show ts.length + 9 ≤ _; omega
      have hdl : d.length ≤ 8 := by
        have h1 := hsub.length_le
        rw [List.length_map, List.length_take] at h1
        omega
      have hfl : ((d.map entD).map E.dat).length ≤ 10 := by rw [List.length_map, List.length_map]; omega
      have hcase : v = .none ∨ ∃ ct, v = ctD ct ∧ CtOk ct := by
        have e39' : (1000000000000000000000000000000000000000 : Int).natAbs < 10 ^ 45 := by decide +kernel
        rcases List.mem_append.mp hv with h | h
        · obtain ⟨t, ht, rfl⟩ := List.mem_map.mp h
          exact Or.inr ⟨.inl t, rfl, htp t ht⟩
        · simp only [List.mem_cons, List.not_mem_nil, or_false] at h
          rcases h with rfl | rfl | rfl | rfl | rfl | rfl | rfl | rfl | rfl
          · exact Or.inr ⟨.inr 0, rfl, by show (0 : Int).natAbs < 10 ^ 45; decide +kernel⟩
          · exact Or.inr ⟨.inr 1, rfl, by show (1 : Int).natAbs < 10 ^ 45; decide +kernel⟩
          · exact Or.inr ⟨.inr 1, rfl, by show (1 : Int).natAbs < 10 ^ 45; decide +kernel⟩
          · exact Or.inr ⟨.inr 1000000000000000000000000000000000000000, rfl, e39'⟩
          · exact Or.inr ⟨.inr a, rfl, by show a.natAbs < 10 ^ 45; have := e45; omega⟩
          · exact Or.inr ⟨.inl "Q", rfl, tx_pl _ (by simp)⟩
          · exact Or.inl rfl
          · exact Or.inl rfl
          · exact Or.inl rfl
      rcases hcase with rfl | ⟨ct, rfl, hct⟩
      · have hxs : ((d.map entD).map E.dat).length + ([] : List PyData).length ≤ sizeLine := by show _ + 0 ≤ _; omega
        simp (disch := first | exact hsz | exact hxs | first | omega | (simp only [List.length_cons, List.length_nil, Int.reduceToNat]; omega)) only [xX, deckX_g3, kl_t, e39, h6.2, h7.2, deckX_g4, deckX_s4, rep0, List.append_nil]
        refine ⟨_, _, rfl, ?_⟩
        exact ⟨d, c7, j5 + 1 + 1, rfl, rfl, by rw [htk]; exact hsub.trans (List.sublist_append_left ..), hdo, D7, by omega⟩
      · have hxs : ((d.map entD).map E.dat).length + ([PyData.tuple [PyData.str s, ctD ct]] : List PyData).length ≤ sizeLine := by show _ + 1 ≤ _; omega
        simp (disch := first | exact hsz | exact hxs | first | omega | (simp only [List.length_cons, List.length_nil, Int.reduceToNat]; omega)) only [xX, deckX_g3, kl_t, e39, h6.2, h7.2, deckX_g4, deckX_s4, ctD_ne, rep1, rep1']
        refine ⟨_, _, rfl, d ++ [(s, ct)], c7, j5 + 1 + 1, rfl, ?_, ?_, fun p hp => ?_, D7, by omega⟩
        · simp only [List.map_append]; rfl
        · rw [htk]
          unfold ksD
          rw [List.map_append]
          exact hsub.append (List.Sublist.refl _)
        · rcases List.mem_append.mp hp with h | h
          · exact hdo p h
          · rw [List.mem_singleton.mp h]; exact ⟨hsP, hct⟩
  rw [List.length_map] at hsub hj5
  have hdl : d.length ≤ 8 := by
    have h1 := hsub.length_le
    rw [List.length_map, List.length_take] at h1
    omega
  have hel : (d.map entD).length ≤ sizeLine := by rw [List.length_map]; omega
  rw [e]
  simp (disch := first | exact hel | first | omega | (simp only [List.length_cons, List.length_nil, Int.reduceToNat]; omega)) only [xX, deckX_g4, deckX_s4]
  exact ⟨d, c5, j5, _, rfl, hsub.nodup ((List.take_sublist ..).nodup hLn), hdo, hdl, D5, by omega⟩
end LL
/-! a test; a script with bodies -/
namespace LL
open PySem PySem.Spec PyProof.Rows L2 DL
theorem test_ok {c : List Int} {ss ts : List Str} {n i j : Int} {ext : List (Key × E)} {rest : List OD} (hl : 3 ≤ ss.length ∧ ss.length ≤ 5) (nd : ss.Nodup) (hp : ∀ s ∈ ss, Pl s) (htl : 0 < ts.length ∧ ts.length ≤ 10) (htp : ∀ t ∈ ts, Pl t) (D : Dc c i j) (hj : j < 2 ^ 39) :
    ∃ (t : Tst) (c' : List Int), x_law_test [.loc 1, .loc 3] (deckX c i j ++ .gone :: .dic (kitL ss ts n ext) :: rest) = .ok (.dat (tstD t)) (deckX c' i (j + 4) ++ .gone :: .dic (kitL ss ts n ext) :: rest) ∧ OkT t ∧ Dc c' i (j + 4) := by
  have hz := szl
  obtain ⟨v1, c1, h1, hv1, D1⟩ := pick_at (l := ss.map .str) (by rw [List.length_map]; omega) D (by omega)
  obtain ⟨one, ho, rfl⟩ := List.mem_map.mp hv1
  obtain ⟨two, c2, h2, hw2, D2⟩ := draw_at (n := (ss.length : Int) - 1) ⟨by omega, by omega⟩ D1 (by omega)
  have hfl := far_len nd ho
  obtain ⟨v3, hv3, hat⟩ := atI_some (l := (ss.filter fun x => !decide (x = one)).map PyData.str) (i := two) hw2.1 (by rw [List.length_map, hfl]; omega)
  obtain ⟨oth, hoth, rfl⟩ := List.mem_map.mp hv3
  have hoth' : oth ∈ ss := (List.mem_filter.mp hoth).1
  obtain ⟨v4, c4, h4, hv4, D4⟩ := pick_at (l := ts.map .str) (by rw [List.length_map]; omega) D2 (by omega)
  obtain ⟨tx, htx, rfl⟩ := word_of hv4
  obtain ⟨w, c5, h5, hw5, D5⟩ := draw_at (n := 3) ⟨by decide, by decide⟩ D4 (by omega)
  have e4 : j + 1 + 1 + 1 + 1 = j + 4 := by omega
  rw [e4] at h5 D5
  obtain ⟨v, hv, hvat⟩ := atI_some (l := [tstD (.ex one), tstD (.same one oth), tstD (.is one tx)]) (i := w) hw5.1 (by show w < (3 : Int); omega)
  have hch : ∃ t, v = tstD t ∧ OkT t := by
    simp only [List.mem_cons, List.not_mem_nil, or_false] at hv
    rcases hv with rfl | rfl | rfl
    · exact ⟨_, rfl, hp one ho⟩
    · exact ⟨_, rfl, hp one ho, hp oth hoth'⟩
    · exact ⟨_, rfl, hp one ho, htp tx htx⟩
  obtain ⟨t, rfl, hok⟩ := hch
  refine ⟨t, c5, ?_, hok, D5⟩
  unfold x_law_test y_law_test
  have hsl : (ss.map PyData.str).length ≤ sizeLine := by rw [List.length_map]; omega
  have htl' : (ts.map PyData.str).length ≤ sizeLine := by rw [List.length_map]; omega
  have hc : ∀ m g, g = [some (E.loc 1), some (.loc 3), some (.dat (.str one)), some (.dat (.int two)), none, none, none] → lcL (xgName 5) (xB (xOp (yEqN true) (xVar 5) (xVar 2))) (xVar 5) g (ss.map PyData.str) m = .ok ((ss.map PyData.str).filter fun x => !decide (strOf x = one)) m := fun m g hg => by
    subst hg
    refine lcL_filter fun x hx k => ?_
    obtain ⟨s, hs, rfl⟩ := List.mem_map.mp hx
    by_cases e : s = one
    · have e1 : decide (s = one) = true := decide_eq_true e
      have e2 : (!decide (strOf (PyData.str s) = one)) = false := by show (!decide (s = one)) = false; rw [e1]; rfl
      rw [e2]
      simp (disch := first | omega | (simp only [List.length_cons, List.length_nil, Int.reduceToNat]; omega)) only [xX, e1]
    · have e1 : decide (s = one) = false := decide_eq_false e
      have e2 : (!decide (strOf (PyData.str s) = one)) = true := by show (!decide (s = one)) = true; rw [e1]; rfl
      rw [e2]
      simp (disch := first | omega | (simp only [List.length_cons, List.length_nil, Int.reduceToNat]; omega)) only [xX, e1]
  have hff : (ss.map PyData.str).filter (fun x => !decide (strOf x = one)) = (ss.filter fun x => !decide (x = one)).map PyData.str := by rw [List.filter_map]; rfl
  have hlen : ((ss.map PyData.str).length : Int) - 1 = (ss.length : Int) - 1 := by rw [List.length_map]
  have hfl2 : ((ss.filter fun x => !decide (x = one)).map PyData.str).length ≤ sizeLine := by rw [List.length_map, hfl]; omega
  unfold tstD at hvat
  simp (disch := first | exact hsl | exact htl' | exact hfl2 | first | omega | (simp only [List.length_cons, List.length_nil, Int.reduceToNat]; omega)) only [xX, deckX_g3, kl_n, kl_t, h1.2, hlen, h2.2, hc _ _ rfl, hff, hat, h4.2, h5.2, hvat]
  unfold tstD
  rfl
/-! ### the room of a script -/
def exR (ws : List Str) (room : Int) : List (Key × E) := [(.inr "room", .dat (.int room)), (.inr "words", .dat (.list (ws.map .str)))]
theorem extR (ws : List Str) (room : Int) : Ext (exR ws room) ws := ⟨by show 2 ≤ 100; decide, by rfl, fun p hp => by
  unfold exR at hp
  simp only [List.mem_cons, List.not_mem_nil, or_false] at hp
  rcases hp with rfl | rfl
  · exact fun e => absurd (Sum.inr.inj e) (by decide +kernel)
  · exact fun e => absurd (Sum.inr.inj e) (by decide +kernel), fun p hp => by
  unfold exR at hp
  simp only [List.mem_cons, List.not_mem_nil, or_false] at hp
  rcases hp with rfl | rfl
  · exact ⟨_, rfl⟩
  · exact ⟨_, rfl⟩⟩
section
variable {ss ts ws : List Str} {n r r' : Int}
theorem kl_r : lookD (kitL ss ts n (exR ws r)) (.inr "room") = some (.dat (.int r)) := by rfl
theorem kl_rp : putE (kitL ss ts n (exR ws r)) (.inr "room") (.dat (.int r')) = kitL ss ts n (exR ws r') := by rfl
end
/-- the ledger of a script's turn: the deck, the kit, the rest, the found -/
abbrev LS (c : List Int) (i j : Int) (ss ts ws : List Str) (n r : Int) (rest : List OD) : Mm := deckX c i j ++ .gone :: .dic (kitL ss ts n (exR ws r)) :: rest
theorem ls_g3 {c : List Int} {i j : Int} {ss ts ws : List Str} {n r : Int} {rest : List OD} : (LS c i j ss ts ws n r rest)[3]? = some (.dic (kitL ss ts n (exR ws r))) := rfl
theorem ls_s3 {c : List Int} {i j : Int} {ss ts ws : List Str} {n r r' : Int} {rest : List OD} {n' : Int} : (LS c i j ss ts ws n r rest).set 3 (.dic (kitL ss ts n' (exR ws r'))) = LS c i j ss ts ws n' r' rest := rfl
theorem ls_len {c : List Int} {i j : Int} {ss ts ws : List Str} {n r : Int} {rest : List OD} : (LS c i j ss ts ws n r rest).length = rest.length + 4 := by rw [deckX_len1, List.length_cons, List.length_cons]
theorem ls_q {c : List Int} {i j : Int} {ss ts ws : List Str} {n r : Int} {rest : List OD} {o : OD} : (LS c i j ss ts ws n r (rest ++ [o]))[rest.length + 4]? = some o := by
  show (([_, _, _, _] ++ (rest ++ [o])) : List OD)[rest.length + 4]? = some o
  rw [List.getElem?_append_right (by show 4 ≤ _; omega)]
  show (rest ++ [o])[rest.length + 4 - 4]? = some o
  rw [Nat.add_sub_cancel, List.getElem?_append_right (Nat.le_refl _), Nat.sub_self]
  rfl
theorem ls_sq {c : List Int} {i j : Int} {ss ts ws : List Str} {n r : Int} {rest : List OD} {o o' : OD} : (LS c i j ss ts ws n r (rest ++ [o])).set (rest.length + 4) o' = LS c i j ss ts ws n r (rest ++ [o']) := by
  show (([_, _, _, _] ++ (rest ++ [o])) : List OD).set (rest.length + 4) o' = ([_, _, _, _] ++ (rest ++ [o']) : List OD)
  rw [List.set_append_right _ _ (by show 4 ≤ _; omega)]
  show _ ++ (rest ++ [o]).set (rest.length + 4 - 4) o' = _
  rw [Nat.add_sub_cancel, List.set_append_right _ _ (Nat.le_refl _), Nat.sub_self]
  rfl
theorem ls_in {c : List Int} {i j : Int} {ss ts ws : List Str} {n r : Int} {rest : List OD} (h : ∀ o ∈ rest, inO (rest.length + 4) o = true) : inM (LS c i j ss ts ws n r rest) := inM_dk (by
  show (true && (inO _ (.dic (kitL ss ts n (exR ws r))) && rest.all (inO ((OD.gone :: .dic (kitL ss ts n (exR ws r)) :: rest).length + 2)))) = true
  have e : rest.all (inO ((OD.gone :: .dic (kitL ss ts n (exR ws r)) :: rest).length + 2)) = true := List.all_eq_true.mpr fun o ho => h o ho
  rw [kl_in (extR ws r), e]
  rfl)
abbrev opE (l : List Op) : List E := (l.map opD).map E.dat
theorem op_in {q : Nat} (l : List Op) : inO q (.lst (opE l)) = true := List.all_eq_true.mpr fun e he => by
  obtain ⟨x, _, rfl⟩ := List.mem_map.mp he
  rfl
end LL
/-! a script with bodies -/
namespace LL
open PySem PySem.Spec PyProof.Rows L2 DL
/-- what is known of a kit -/
structure KO (ss ts ws : List Str) : Prop where
  l0 : 3 ≤ ss.length
  l1 : ss.length ≤ 5
  nd : ss.Nodup
  sp : ∀ s ∈ ss, Pl s
  t0 : 0 < ts.length
  t1 : ts.length ≤ 10
  tp : ∀ t ∈ ts, Pl t
  w0 : 0 < ws.length
  w1 : ws.length ≤ 100
  wm : ∀ w ∈ ws, w ∈ opW
/-- from one state of the room to another, with these operations -/
structure Go (deep : Nat) (i : Int) (l : List Op) (c : List Int) (k j j' n n' r r' : Int) : Prop where
  ok : OkL l
  dp : dpL l ≤ deep
  sz : (szL l : Int) ≤ r - r'
  r0 : 0 ≤ r'
  n0 : n - (r - r') ≤ n'
  n1 : n' ≤ n
  dc : Dc c i j'
  jj : j' ≤ j + k + 12 * (r - r')
def ScrOk (f : XF) (deep : Nat) (ss ts ws : List Str) (i : Int) : Prop := ∀ (c : List Int) (j n r : Int) (rest : List OD), Dc c i j → j + 1 + 20 * r < 2 ^ 38 → 0 ≤ r ∧ r ≤ 100 → n ≤ 100 → n - r ≥ -80 → (∀ o ∈ rest, inO (rest.length + 4) o = true) →
  ∃ (l : List Op) (c' : List Int) (j' n' r' : Int) (more : List OD), f [.loc 1, .loc 3, .dat (.int (deep : Int))] (LS c i j ss ts ws n r rest) = .ok (.dat (.tuple (l.map opD))) (LS c' i j' ss ts ws n' r' (rest ++ more)) ∧ Go deep i l c' 1 j j' n n' r r'
abbrev scrB (r : XF) : XS := (xSeq (xIfS (xB (xOp yLt (xIx (xVar 1) (xC (.str "room"))) (xC (.int 1)))) (xRet (xCB yTuple (xCons (xVar 3) xNil))) xNext) 
    (xSeq (xAsg (xOp ySub (xIx (xVar 1) (xC (.str "room"))) (xC (.int 1))) (xgSub (xVar 1) (xC (.str "room")))) 
    (xIfS (xAnd (xB (xOp yGt (xVar 2) (xC (.int 0)))) (xB (xOp (yEqN false) (xCallN 2 2 x_law_draw (xCons (xVar 0) (xCons (xC (.int 3)) xNil))) (xC (.int 0))))) (xSeq (xAsg (xLc (xiR1 (xCons (xC (.int 2)) xNil)) (xgName 6) xYes (xCallT 3 r (xCons (xVar 0) (xCons (xVar 1) (xCons (xOp ySub (xVar 2) (xC (.int 1))) xNil)))) [6]) (xgName 5)) 
    (xDrop (xApp (xVar 3) (xTup (xCons (xC (.str "if")) (xCons (xCallT 2 x_law_test (xCons (xVar 0) (xCons (xVar 1) xNil))) (xCons (xIx (xVar 5) (xC (.int 0))) (xCons (xIx (xVar 5) (xC (.int 1))) xNil)))))))) (xDrop (xApp (xVar 3) (xCallT 2 x_law_operation (xCons (xVar 0) (xCons (xVar 1) xNil))))))))
abbrev gS (deep q : Nat) : Gm := [some (.loc 1), some (.loc 3), some (.dat (.int (deep : Int))), some (.loc q), none, none, none]
theorem scr_tie (n : Nat) : x_law_script (n + 1) = fDef N_law_script (xSeq (xAsg (xLstM xNil) (xgName 3)) (xSeq (xFor [4, 5, 6] false (xiR1 (xCons (xCallN 2 2 x_law_draw (xCons (xVar 0) (xCons (xC (.int 6)) xNil))) xNil)) (xgName 4) (scrB (x_law_script n))) (xRet (xCB yTuple (xCons (xVar 3) xNil))))) := rfl
theorem ls_app {c : List Int} {i j : Int} {ss ts ws : List Str} {n r : Int} {rest more : List OD} : LS c i j ss ts ws n r (rest ++ more) = LS c i j ss ts ws n r rest ++ more := by
  show deckX c i j ++ _ = (deckX c i j ++ _) ++ more
  rw [List.append_assoc]
  rfl
theorem scr_call {f : XF} {deep : Nat} {ss ts ws : List Str} {i : Int} (h : ScrOk f deep ss ts ws i) {c : List Int} {j n r : Int} {rest : List OD} (D : Dc c i j) (hj : j + 1 + 20 * r < 2 ^ 38) (hr : 0 ≤ r ∧ r ≤ 100) (hn : n ≤ 100) (hnr : n - r ≥ -80) (hre : ∀ o ∈ rest, inO (rest.length + 4) o = true) :
    ∃ (l : List Op) (c' : List Int) (j' n' r' : Int), kCallT 3 f [.loc 1, .loc 3, .dat (.int (deep : Int))] (LS c i j ss ts ws n r rest) = .ok (.dat (.tuple (l.map opD))) (LS c' i j' ss ts ws n' r' rest) ∧ Go deep i l c' 1 j j' n n' r r' := by
  obtain ⟨l, c', j', n', r', more, e, G⟩ := h c j n r rest D hj hr hn hnr hre
  refine ⟨l, c', j', n', r', callT (more := more) rfl (ls_in hre) ?_ (by rw [ls_len, ls_len]) (ls_in hre) ?_, G⟩
  · show (decide (1 < (LS c i j ss ts ws n r rest).length) && (decide (3 < (LS c i j ss ts ws n r rest).length) && (true && true))) = true
    rw [ls_len, decide_eq_true (by omega), decide_eq_true (by omega)]
    rfl
  · rw [e, ls_app]
theorem scr_step {f : XF} {deep : Nat} {ss ts ws : List Str} {i : Int} (K : KO ss ts ws) (hf : ∀ d, deep = d + 1 → ScrOk f d ss ts ws i) {c : List Int} {j n r : Int} {rest : List OD} {l : List Op} (hll : l.length ≤ 1000) (D : Dc c i j) (hj : j + 20 * r < 2 ^ 38) (hr : 1 ≤ r ∧ r ≤ 100) (hn : n ≤ 100) (hnr : n - r ≥ -80) (hre : ∀ o ∈ rest, inO (rest.length + 4) o = true) (x : PyData) :
    ∃ g' m', rb (xgName 4 (.dat x) (gS deep (rest.length + 4)) (LS c i j ss ts ws n r (rest ++ [.lst (opE l)]))) (scrB f) = .ok (.nx g') m' ∧ wipeG g' [4, 5, 6] = gS deep (rest.length + 4) ∧
      ∃ (o : Op) (c' : List Int) (j' n' r' : Int), m' = LS c' i j' ss ts ws n' r' (rest ++ [.lst (opE (l ++ [o]))]) ∧ Go deep i [o] c' 0 j j' n n' r r' := by
  have hz := szl
  have hre' : ∀ (l : List Op), ∀ o ∈ rest ++ [.lst (opE l)], inO ((rest ++ [OD.lst (opE l)]).length + 4) o = true := fun l o ho => by
    rw [List.length_append]
    rcases List.mem_append.mp ho with q | q
    · exact inO_mono (by show _ ≤ rest.length + 1 + 4; omega) (hre o q)
    · rw [List.mem_singleton.mp q]; exact op_in l
  have e1 : decide (r < 1) = false := decide_eq_false (by omega)
  have hkl : (kitL ss ts n (exR ws r)).length < sizeLine := by rw [kl_len]; show 2 + 3 < _; omega
  have hol : (opE l).length < sizeLine := by rw [List.length_map, List.length_map]; omega
  have hap : ∀ o, opE l ++ [E.dat (opD o)] = opE (l ++ [o]) := fun o => by unfold opE; rw [List.map_append, List.map_append]; rfl
  have oper : ∀ {c : List Int} {j : Int}, Dc c i j → j < 2 ^ 38 → ∃ (o : Op) (c' : List Int) (j' n' : Int), kCallT 2 x_law_operation [.loc 1, .loc 3] (LS c i j ss ts ws n (r - 1) (rest ++ [.lst (opE l)])) = .ok (.dat (opD o)) (LS c' i j' ss ts ws n' (r - 1) (rest ++ [.lst (opE l)])) ∧ OpS o ∧ Dc c' i j' ∧ j' ≤ j + 4 ∧ n - 1 ≤ n' ∧ n' ≤ n := fun {c j} D hj => by
    obtain ⟨o, c5, j5, n5, h5, ho, D5, hj5, hn5, hn5'⟩ := oper_ok (n := n) (ext := exR ws (r - 1)) (rest := rest ++ [.lst (opE l)]) ⟨K.l0, K.l1⟩ K.nd K.sp ⟨K.t0, K.t1⟩ K.tp (extR ws (r - 1)) ⟨K.w0, K.w1⟩ K.wm ⟨by omega, by omega⟩ D (by omega)
    exact ⟨o, c5, j5, n5, callT (more := []) rfl (ls_in (hre' l)) (by
      show (decide (1 < (LS c i j ss ts ws n (r - 1) (rest ++ [.lst (opE l)])).length) && (decide (3 < (LS c i j ss ts ws n (r - 1) (rest ++ [.lst (opE l)])).length) && true)) = true
      rw [ls_len, decide_eq_true (by omega), decide_eq_true (by omega)]
      rfl) (by rw [ls_len, ls_len]) (ls_in (hre' l)) (by rw [List.append_nil]; exact h5), ho, D5, hj5, hn5, hn5'⟩
  have single : ∀ {o : Op}, OpS o → OkL [o] ∧ dpL [o] = 0 ∧ szL [o] = 1 := fun {o} ho => by
    obtain ⟨h1, h2, h3⟩ := ho
    rw [OkL, OkL, dpL, dpL, szL, szL, h2, h3]
    exact ⟨⟨h1, trivial⟩, rfl, rfl⟩
  cases deep with
  | zero =>
    obtain ⟨o, c5, j5, n5, h5, ho, D5, hj5, hn5, hn5'⟩ := oper D (by omega)
    obtain ⟨s1, s2, s3⟩ := single ho
    have e2 : decide ((0 : Int) < ((0 : Nat) : Int)) = false := rfl
    simp (disch := first | exact hkl | exact hol | first | omega | (simp only [List.length_cons, List.length_nil, Int.reduceToNat]; omega)) only [xX, ls_g3, ls_s3, kl_r, kl_rp, e1, e2, ls_q, ls_sq, h5, hap]
    exact ⟨_, _, rfl, rfl, o, c5, j5, n5, r - 1, rfl, ⟨s1, by omega, by omega, by omega, by omega, by omega, D5, by omega⟩⟩
  | succ d =>
    have e2 : decide ((0 : Int) < ((d + 1 : Nat) : Int)) = true := decide_eq_true (by omega)
    have hd1 : ((d + 1 : Nat) : Int) - 1 = (d : Int) := by omega
    obtain ⟨v, c1, h1, hv, D1⟩ := draw_at (n := 3) ⟨by decide, by decide⟩ D (by omega)
    by_cases v0 : v = 0
    · have e3 : decide (v = 0) = true := decide_eq_true v0
      obtain ⟨y, c2, j2, n2, r2, hy, Gy⟩ := scr_call (hf d rfl) (n := n) (r := r - 1) (rest := rest ++ [.lst (opE l)]) D1 (by omega) ⟨by omega, by omega⟩ (by omega) (by omega) (hre' l)
      obtain ⟨no, c3, j3, n3, r3, hno, Gn⟩ := scr_call (hf d rfl) (n := n2) (r := r2) (rest := rest ++ [.lst (opE l)]) Gy.dc (by have := Gy.jj; have := Gy.r0; have := Gy.sz; omega) ⟨Gy.r0, by have := Gy.sz; omega⟩ (by have := Gy.n1; omega) (by have := Gy.n0; omega) (hre' l)
      have y1 := Gy.jj
      have y2 := Gy.r0
      have y3 := Gy.n0
      have y4 := Gy.n1
      have y5 := Gy.sz
      have y6 := Gy.dp
      have z1 := Gn.jj
      have z2 := Gn.r0
      have z3 := Gn.n0
      have z4 := Gn.n1
      have z5 := Gn.sz
      have z6 := Gn.dp
      obtain ⟨t, c4, h4, ht, D4⟩ := test_ok (n := n3) (ext := exR ws r3) (rest := rest ++ [.lst (opE l)]) ⟨K.l0, K.l1⟩ K.nd K.sp ⟨K.t0, K.t1⟩ K.tp Gn.dc (by omega)
      have h4' : kCallT 2 x_law_test [.loc 1, .loc 3] (LS c3 i j3 ss ts ws n3 r3 (rest ++ [.lst (opE l)])) = .ok (.dat (tstD t)) (LS c4 i (j3 + 4) ss ts ws n3 r3 (rest ++ [.lst (opE l)])) := callT (more := []) rfl (ls_in (hre' l)) (by
        show (decide (1 < (LS c3 i j3 ss ts ws n3 r3 (rest ++ [.lst (opE l)])).length) && (decide (3 < (LS c3 i j3 ss ts ws n3 r3 (rest ++ [.lst (opE l)])).length) && true)) = true
        rw [ls_len, decide_eq_true (by omega), decide_eq_true (by omega)]
        rfl) (by rw [ls_len, ls_len]) (ls_in (hre' l)) (by rw [List.append_nil]; exact h4)
      have hr2 : rangeD 0 (2 : Int).toNat = [.int 0, .int 1] := rfl
      have hA : ∀ x5, lcL (xgName 6) xYes (xCallT 3 f (xCons (xVar 0) (xCons (xVar 1) (xCons (xOp ySub (xVar 2) (xC (.int 1))) xNil)))) [some (.loc 1), some (.loc 3), some (.dat (.int ((d + 1 : Nat) : Int))), some (.loc (rest.length + 4)), some (.dat x), x5, none] [.int 0, .int 1] (LS c1 i (j + 1) ss ts ws n (r - 1) (rest ++ [.lst (opE l)])) = .ok [.tuple (y.map opD), .tuple (no.map opD)] (LS c3 i j3 ss ts ws n3 r3 (rest ++ [.lst (opE l)])) := fun x5 => by
        rw [lcL_cons]
        simp (disch := first | omega | (simp only [List.length_cons, List.length_nil, Int.reduceToNat]; omega)) only [xX, hd1, hy]
        rw [lcL_cons]
        simp (disch := first | omega | (simp only [List.length_cons, List.length_nil, Int.reduceToNat]; omega)) only [xX, hd1, hno, lcL_nil]
      have hap' : opE l ++ [E.dat (.tuple [.str "if", tstD t, .tuple (y.map opD), .tuple (no.map opD)])] = opE (l ++ [.ite t y no]) := by
        rw [← hap, opD, opsD_map, opsD_map]
      have s1 : OkL [.ite t y no] := by
        rw [OkL, OkL, OkO]
        exact ⟨⟨ht, Gy.ok, Gn.ok⟩, trivial⟩
      have s2 : dpL [.ite t y no] ≤ d + 1 := by
        rw [dpL, dpL, dpO]
        omega
      have s3 : szL [.ite t y no] = 1 + szL y + szL no := by rw [szL, szL, szO]; rfl
      simp (disch := first | exact hkl | exact hol | first | omega | (simp only [List.length_cons, List.length_nil, Int.reduceToNat]; omega)) only [xX, ls_g3, ls_s3, kl_r, kl_rp, e1, e2, ls_q, ls_sq, h1.2, e3, hr2, hA, h4', hap']
      exact ⟨_, _, rfl, rfl, .ite t y no, c4, j3 + 4, n3, r3, rfl, ⟨s1, s2, by omega, by omega, by omega, by omega, D4, by omega⟩⟩
    · have e3 : decide (v = 0) = false := decide_eq_false v0
      obtain ⟨o, c5, j5, n5, h5, ho, D5, hj5, hn5, hn5'⟩ := oper D1 (by omega)
      obtain ⟨s1, s2, s3⟩ := single ho
      simp (disch := first | exact hkl | exact hol | first | omega | (simp only [List.length_cons, List.length_nil, Int.reduceToNat]; omega)) only [xX, ls_g3, ls_s3, kl_r, kl_rp, e1, e2, ls_q, ls_sq, h1.2, e3, h5, hap]
      exact ⟨_, _, rfl, rfl, o, c5, j5, n5, r - 1, rfl, ⟨s1, by omega, by omega, by omega, by omega, by omega, D5, by omega⟩⟩
end LL
/-! a script with bodies, whole -/
namespace LL
open PySem PySem.Spec PyProof.Rows L2 DL
theorem Go.app {deep : Nat} {i : Int} {l l' : List Op} {c1 c2 : List Int} {k j j1 j2 n n1 n2 r r1 r2 : Int} (G : Go deep i l c1 k j j1 n n1 r r1) (H : Go deep i l' c2 0 j1 j2 n1 n2 r1 r2) : Go deep i (l ++ l') c2 k j j2 n n2 r r2 := by
  have a1 := G.sz
  have a2 := G.n0
  have a3 := G.n1
  have a4 := G.jj
  have a5 := G.dp
  have b1 := H.sz
  have b2 := H.n0
  have b3 := H.n1
  have b4 := H.jj
  have b5 := H.dp
  refine ⟨okL_app G.ok H.ok, ?_, ?_, H.r0, by omega, by omega, H.dc, by omega⟩
  · rw [dp_app]; omega
  · rw [sz_app]; omega
theorem scr_all {n : Nat} {deep : Nat} {ss ts ws : List Str} {i : Int} (K : KO ss ts ws) (hf : ∀ d, deep = d + 1 → ScrOk (x_law_script n) d ss ts ws i) : ScrOk (x_law_script (n + 1)) deep ss ts ws i := by
  intro c j n0 r rest D hj hr hn hnr hre
  have hz := szl
  rw [scr_tie]
  obtain ⟨v, c1, h1, hv, D1⟩ := draw_at (n := 6) ⟨by decide, by decide⟩ D (by omega)
  obtain ⟨b, rfl⟩ : ∃ b : Nat, v = b := ⟨v.toNat, by omega⟩
  have hlo := forL_or (ws := [4, 5, 6]) (n := none) (dg := xgName 4) (tb := scrB (x_law_script n)) (items := rangeD 0 ((b : Nat) : Int).toNat) (g := gS deep (rest.length + 4)) (m := LS c1 i (j + 1) ss ts ws n0 r (rest ++ [.lst (opE [])]))
    (fun k g m => ∃ (l : List Op) (c' : List Int) (j' n' r' : Int), g = gS deep (rest.length + 4) ∧ m = LS c' i j' ss ts ws n' r' (rest ++ [.lst (opE l)]) ∧ Go deep i l c' 1 j j' n0 n' r r')
    (fun x => ∃ (l : List Op) (c' : List Int) (j' n' r' : Int), (x = .ok (.nx (gS deep (rest.length + 4))) (LS c' i j' ss ts ws n' r' (rest ++ [.lst (opE l)])) ∨ x = .ok (.rt (.dat (.tuple (l.map opD)))) (LS c' i j' ss ts ws n' r' (rest ++ [.lst (opE l)]))) ∧ Go deep i l c' 1 j j' n0 n' r r')
    ⟨[], c1, j + 1, n0, r, rfl, rfl, ⟨by rw [OkL]; trivial, by rw [dpL]; omega, by rw [szL]; show (0 : Int) ≤ _; omega, hr.1, by omega, by omega, D1, by omega⟩⟩ (fun k x g m hx hI => by
      obtain ⟨l, c', j', n', r', rfl, rfl, G⟩ := hI
      have a1 := G.sz
      have a2 := G.n0
      have a3 := G.n1
      have a4 := G.jj
      have a5 := G.dp
      have a6 := G.r0
      have a7 := sz_len l
      by_cases hr1 : r' < 1
      · right
        have e1 : decide (r' < 1) = true := decide_eq_true hr1
        have hll : (l.map opD).length ≤ sizeLine := by rw [List.length_map]; omega
        refine ⟨.dat (.tuple (l.map opD)), LS c' i j' ss ts ws n' r' (rest ++ [.lst (opE l)]), ?_, l, c', j', n', r', Or.inr rfl, G⟩
        simp (disch := first | exact hll | first | omega | (simp only [List.length_cons, List.length_nil, Int.reduceToNat]; omega)) only [xX, ls_g3, kl_r, e1, ls_q]
      · left
        obtain ⟨g', m', e, eg, o, c2, j2, n2, r2, rfl, H⟩ := scr_step (f := x_law_script n) (deep := deep) (c := c') (j := j') (n := n') (r := r') (rest := rest) (l := l) K hf (by omega) G.dc (by omega) ⟨by omega, by omega⟩ (by omega) (by omega) hre x
        exact ⟨g', _, e, l ++ [o], c2, j2, n2, r2, eg, rfl, G.app H⟩)
    (fun g m hI => by
      obtain ⟨l, c', j', n', r', rfl, rfl, G⟩ := hI
      exact ⟨l, c', j', n', r', Or.inl rfl, G⟩)
  obtain ⟨l, c', j', n', r', hx, G⟩ := hlo
  refine ⟨l, c', j', n', r', [.lst (opE l)], ?_, G⟩
  have hll : (l.map opD).length ≤ sizeLine := by rw [List.length_map]; have := sz_len l; have := G.sz; have := G.r0; omega
  have hrl : (rangeD 0 ((b : Nat) : Int).toNat).length ≤ sizeLine := by rw [rangeD_len]; omega
  have hla : ∀ c j n r, LS c i j ss ts ws n r rest ++ [OD.lst []] = LS c i j ss ts ws n r (rest ++ [.lst (opE [])]) := fun c j n r => ls_app.symm
  rcases hx with hx | hx
  · simp (disch := first | exact hll | exact hrl | first | omega | (simp only [List.length_cons, List.length_nil, Int.reduceToNat]; omega)) only [xX, ls_len, hla, h1.2, hx, ls_q]
  · simp (disch := first | exact hll | exact hrl | first | omega | (simp only [List.length_cons, List.length_nil, Int.reduceToNat]; omega)) only [xX, ls_len, hla, h1.2, hx, ls_q]
theorem scr_ok {ss ts ws : List Str} {i : Int} (K : KO ss ts ws) : ∀ (n deep : Nat), deep ≤ n → ScrOk (x_law_script (n + 1)) deep ss ts ws i
  | 0, deep, h => scr_all K fun d e => absurd e (by omega)
  | n + 1, deep, h => scr_all K fun d e => scr_ok K n d (by omega)
end LL
/-! trace and the law's own execution beside one another -/
namespace LL
open PySem PySem.Spec PyProof.Rows L2 DL
theorem rep_of {n k : Nat} {d : PyData} (h : Bd n k d) (hn : n ≤ 16777216) (hk : k ≤ 60) : yReprA [d] = some (.str d.shown) := yRepr_of (h.shows hn hk)
theorem pl_put : Pl "put" := by unfold Pl; decide +kernel
theorem pl_mov : Pl "move" := by unfold Pl; decide +kernel
theorem pl_rem : Pl "remove" := by unfold Pl; decide +kernel
theorem ch_bd {ch : Ch} (h : ChOk ch) : Bd 616 1 (chD ch) := by
  cases ch with
  | put a c => exact bd_tuple (n := 202) (k := 0) (l := 3) (fun d hd => by
      simp only [List.mem_cons, List.not_mem_nil, or_false] at hd
      rcases hd with rfl | rfl | rfl
      · exact pl_bd pl_put
      · exact pl_bd h.1
      · exact ct_bd h.2) (Nat.le_refl _)
  | move a b => exact bd_tuple (n := 202) (k := 0) (l := 3) (fun d hd => by
      simp only [List.mem_cons, List.not_mem_nil, or_false] at hd
      rcases hd with rfl | rfl | rfl
      · exact pl_bd pl_mov
      · exact pl_bd h.1
      · exact pl_bd h.2) (Nat.le_refl _)
  | rem a => exact bd_tuple (n := 202) (k := 0) (l := 3) (fun d hd => by
      simp only [List.mem_cons, List.not_mem_nil, or_false] at hd
      rcases hd with rfl | rfl
      · exact pl_bd pl_rem
      · exact pl_bd h) (by show 2 ≤ 3; decide)
theorem pl_w {s : Str} (h : s ∈ (["write", "copy", "rename", "delete", "sync", "flush", "if", "exists", "same", "is", "other", "z", "more", "BEGUN", "Q", "a", "b", "c", "X"] : List Str)) : Pl s := by
  revert s
  unfold Pl
  decide +kernel
theorem en_bd {e : En} (h : OkE e) : Bd 616 1 (enD e) := by
  cases e with
  | ch c => exact ch_bd h
  | sync => exact bd_tuple (n := 202) (k := 0) (l := 3) (fun d hd => by
      simp only [List.mem_cons, List.not_mem_nil, or_false] at hd
      rw [hd]
      exact pl_bd (pl_w (by simp))) (by show 1 ≤ 3; decide)
  | flush a => exact bd_tuple (n := 202) (k := 0) (l := 3) (fun d hd => by
      simp only [List.mem_cons, List.not_mem_nil, or_false] at hd
      rcases hd with rfl | rfl
      · exact pl_bd (pl_w (by simp))
      · exact pl_bd h) (by show 2 ≤ 3; decide)
theorem ens_bd {es : List En} (h : ∀ e ∈ es, OkE e) (hl : es.length ≤ 100) : Bd 61804 2 (.tuple (es.map enD)) := (bd_tuple (n := 616) (k := 1) (l := 100) (fun d hd => by
  obtain ⟨e, he, rfl⟩ := List.mem_map.mp hd
  exact en_bd (h e he)) (by rw [List.length_map]; exact hl)).mono (by decide) (Nat.le_refl _)
theorem ct_asc {c : Ct} (h : CtOk c) : Asc (ctD c) := by
  cases c with
  | inl x => exact asc_str h.2
  | inr i => exact asc_int i
theorem asc3 {ds : List PyData} (h : ∀ d ∈ ds, Asc d) : Asc (.tuple ds) := asc_tup h
theorem asc_w {s : Str} (h : ∀ c ∈ s.cps.toList, c < 128) : Asc (.str s) := asc_str h
theorem en_asc {e : En} (h : OkE e) : Asc (enD e) := by
  have w : ∀ s : Str, s ∈ (["put", "move", "remove", "sync", "flush"] : List Str) → Asc (.str s) := fun s hs => asc_str (by
    revert s
    decide +kernel)
  have m0 : ∀ d ∈ ([] : List PyData), Asc d := fun d hd => absurd hd List.not_mem_nil
  have mc : ∀ {a : PyData} {r : List PyData}, Asc a → (∀ d ∈ r, Asc d) → ∀ d ∈ a :: r, Asc d := fun ha hr d hd => by
    rcases List.mem_cons.mp hd with q | q
    · rw [q]; exact ha
    · exact hr d q
  cases e with
  | ch c =>
    cases c with
    | put a c => exact asc_tup (mc (w _ (by simp)) (mc (asc_str h.1.2) (mc (ct_asc h.2) m0)))
    | move a b => exact asc_tup (mc (w _ (by simp)) (mc (asc_str h.1.2) (mc (asc_str h.2.2) m0)))
    | rem a => exact asc_tup (mc (w _ (by simp)) (mc (asc_str h.2) m0))
  | sync => exact asc_tup (mc (w _ (by simp)) m0)
  | flush a => exact asc_tup (mc (w _ (by simp)) (mc (asc_str h.2) m0))
theorem ens_asc {es : List En} (h : ∀ e ∈ es, OkE e) : Asc (.tuple (es.map enD)) := asc_tup fun d hd => by
  obtain ⟨e, he, rfl⟩ := List.mem_map.mp hd
  exact en_asc (h e he)
theorem eq_two {s : Str} (h : ∀ c ∈ s.cps.toList, c < 128) : yEqN false (.list [.str s, .str s]) (.list (List.replicate (Int.toNat 2) [PyData.str s]).flatten) = some (.bool true) := by
  have hh : ∀ t ∈ [s, s], ∀ c ∈ t.cps.toList, c < 128 := fun t ht => by
    simp only [List.mem_cons, List.not_mem_nil, or_false, or_self] at ht
    rw [ht]
    exact h
  have := eq_texts (neg := false) (ts := [s, s]) (us := [s, s]) hh hh
  rw [decide_eq_true rfl] at this
  exact this
theorem str_bd {s : Str} (h : Pl s) : Bd 202 0 (.str s) := pl_bd h
theorem op_bd {o : Op} (h : OkO o) (h0 : dpO o = 0) : Bd 616 1 (opD o) := by
  have t3 : ∀ ds : List PyData, ds.length ≤ 3 → (∀ d ∈ ds, ∃ s, d = .str s ∧ Pl s) → Bd 616 1 (.tuple ds) := fun ds hl hd => bd_tuple (n := 202) (k := 0) (l := 3) (fun d hd' => by
    obtain ⟨s, rfl, hs⟩ := hd d hd'
    exact pl_bd hs) hl
  have m1 : ∀ {a : Str}, Pl a → ∀ d ∈ [PyData.str a], ∃ s, d = .str s ∧ Pl s := fun ha d hd => ⟨_, List.mem_singleton.mp hd, ha⟩
  have mc : ∀ {a : Str} {r : List PyData}, Pl a → (∀ d ∈ r, ∃ s, d = .str s ∧ Pl s) → ∀ d ∈ PyData.str a :: r, ∃ s, d = .str s ∧ Pl s := fun ha hr d hd => by
    rcases List.mem_cons.mp hd with q | q
    · exact ⟨_, q, ha⟩
    · exact hr d q
  cases o with
  | sync => rw [opD]; exact t3 _ (by show 1 ≤ 3; decide) (m1 (pl_w (by simp)))
  | flush a => rw [OkO] at h; rw [opD]; exact t3 _ (by show 2 ≤ 3; decide) (mc (pl_w (by simp)) (m1 h))
  | write a t => rw [OkO] at h; rw [opD]; exact t3 _ (Nat.le_refl _) (mc (pl_w (by simp)) (mc h.1 (m1 h.2)))
  | copy a t => rw [OkO] at h; rw [opD]; exact t3 _ (Nat.le_refl _) (mc (pl_w (by simp)) (mc h.1 (m1 h.2)))
  | rename a t => rw [OkO] at h; rw [opD]; exact t3 _ (Nat.le_refl _) (mc (pl_w (by simp)) (mc h.1 (m1 h.2)))
  | delete a => rw [OkO] at h; rw [opD]; exact t3 _ (by show 2 ≤ 3; decide) (mc (pl_w (by simp)) (m1 h))
  | ite t y n => rw [dpO] at h0; omega
theorem ops_bd {l : List Op} (h : ∀ o ∈ l, OpS o) (hl : l.length ≤ 100) : Bd 61804 2 (.tuple (opsD l)) := by
  rw [opsD_map]
  exact (bd_tuple (n := 616) (k := 1) (l := 100) (fun d hd => by
    obtain ⟨o, ho, rfl⟩ := List.mem_map.mp hd
    exact op_bd (h o ho).1 (h o ho).2.2) (by rw [List.length_map]; exact hl)).mono (by decide) (Nat.le_refl _)
theorem ops_okL : ∀ {l : List Op}, (∀ o ∈ l, OpS o) → OkL l ∧ szL l = l.length ∧ dpL l = 0
  | [], _ => by rw [OkL, szL, dpL]; exact ⟨trivial, rfl, rfl⟩
  | o :: r, h => by
    obtain ⟨h1, h2, h3⟩ := h o List.mem_cons_self
    obtain ⟨q1, q2, q3⟩ := ops_okL (l := r) fun x hx => h x (List.mem_cons_of_mem _ hx)
    rw [OkL, szL, dpL, h2, h3, q2, q3, List.length_cons]
    exact ⟨⟨h1, q1⟩, by omega, rfl⟩
/-- what both executions do -/
theorem both_ok {C : Addr} {l : List Op} {d : Dk} (h0 : dpL l ≤ 19) (hl : szL l ≤ 100) (hok : OkL l) (nd : (ksD d).Nodup) (hd : Ents d) (hdl : d.length ≤ 100) :
    ∃ es : List En, (∀ e ∈ es, OkE e) ∧ es.length ≤ 100 ∧ (∀ m, kCallN 2 0 (x_trace C) [.dat (.tuple (opsD l)), .dat (diskD d)] m = .ok (.dat (.tuple (es.map enD))) m) ∧
      ∀ m k, m[k]? = some (.dic (kvE d)) → inM m → kCallT 2 (x_law_entries 20) [.dat (.tuple (opsD l)), .loc k] m = .ok (.dat (.list (es.map enD))) (m.set k (.dic (kvE (run mkB 20 l (d, [])).1))) := by
  have s0 : SOk (d, []) := ⟨nd, hd, fun e he => absurd he List.not_mem_nil⟩
  have ht := trace_ok (C := C) h0 (by omega) hok nd hd
  obtain ⟨_, _, heq⟩ := run_rel 20 l (d, []) (d, []) ⟨List.Perm.refl _, nd, rfl⟩
  rw [heq] at ht
  have hok' := run_ok good_B 20 l (d, []) hok s0
  have hsm := (run_small good_B 20 l (d, []) nd).1.2
  have z : ([] : List En).length = 0 := rfl
  dsimp only at hsm
  refine ⟨(run mkB 20 l (d, [])).2, hok'.2.2, by omega, fun m => call0 (ds := [.tuple (opsD l), diskD d]) rfl rfl ht, fun m k hm him => ?_⟩
  obtain ⟨more, e⟩ := ent_ok 19 l d m k h0 hm him (by omega) (by omega) hok s0
  have hk : k < m.length := (List.getElem?_eq_some_iff.mp hm).1
  exact callT rfl him (by
    show (true && (decide (k < m.length) && true)) = true
    rw [decide_eq_true hk]
    rfl) List.length_set (inM_set him (kvE_in' _ _)) e
theorem pairs_ents : ∀ d : Dk, pairsX (d.map entD) = some (keyP d)
  | [] => rfl
  | (nm, c) :: d => by
    show (pairX (entD (nm, c))).bind (fun p => (pairsX (d.map entD)).map (p :: ·)) = _
    rw [pairs_ents d]
    rfl
theorem two_bd {l : List Op} {d : Dk} (h : ∀ o ∈ l, OpS o) (hl : l.length ≤ 100) (hd : DkOk d) : Bd 123616 3 (.tuple [.tuple (opsD l), diskD d]) := (bd_tuple (n := 61804) (k := 2) (l := 2) (fun e he => by
  simp only [List.mem_cons, List.not_mem_nil, or_false] at he
  rcases he with rfl | rfl
  · exact ops_bd h hl
  · exact (dk_bd hd).mono (by decide) (Nat.le_refl _)) (Nat.le_refl _)).mono (by decide) (Nat.le_refl _)
end LL
namespace LL
open PySem PySem.Spec PyProof.Rows L2 DL
theorem gc_dk {c : List Int} {i j : Int} {r : List OD} {g : Gm} (h : g.all (inS 2) = true) : gcM (some 2) g (deckX c i j ++ r) = deckX c i j := by
  have e1 : (deckX c i j ++ r).take 2 = deckX c i j := by
    show List.take (deckX c i j).length _ = _
    rw [List.take_left]
  have e2 : (deckX c i j).all (inO 2) = true := by
    have := inM_dk (c := c) (i := i) (j := j) (rest := []) rfl
    rw [List.append_nil] at this
    exact this
  show (match g.all (inS 2) && ((deckX c i j ++ r).take 2).all (inO 2) with
    | true => (deckX c i j ++ r).take 2
    | false => deckX c i j ++ r) = _
  rw [e1, e2, h]
  rfl
/-! ### cases by hand -/
instance {s : Str} : Decidable (Pl s) := by unfold Pl; infer_instance
instance {c : Ct} : Decidable (CtOk c) := by
  cases c with
  | inl s => exact inferInstanceAs (Decidable (Pl s))
  | inr i => exact inferInstanceAs (Decidable (i.natAbs < 10 ^ 45))
abbrev YES : List Op := [.sync]
abbrev NO : List Op := [.flush "b"]
def TB : List (Tst × Dk × Bool) := [(.ex "a", [("a", .inr 0)], true), (.ex "a", [("b", .inr 0)], false), (.same "a" "b", [], false), (.same "a" "b", [("a", .inr 1), ("b", .inr 1)], true), (.same "a" "b", [("a", .inr 1), ("b", .inr 2)], false), (.same "a" "b", [("a", .inr 1)], false), (.same "a" "b", [("a", .inl "X"), ("b", .inl "X")], true), (.is "a" "X", [("a", .inl "X")], true), (.is "a" "X", [("a", .inr 0)], false), (.is "a" "X", [], false), (.is "a" "X", [("a", .inl "XX"), ("b", .inl "X")], false), (.same "b" "a", [("b", .inr 3)], false)]
def tbH (p : Tst × Dk × Bool) : List Op × Dk × List En := ([.ite p.1 YES NO], p.2.1, if p.2.2 = true then [.sync] else [.flush "b"])
def hbX : List Op × Dk × List En := ([.write "a" "X", .ite (.is "a" "X") [.rename "a" "b"] [], .ite (.ex "a") NO [.ite (.same "a" "b") NO YES]], [("a", .inr 5)], [.ch (.put "a" (.inl "X")), .ch (.move "a" "b"), .sync])
def HB : List (List Op × Dk × List En) := TB.map tbH ++ [hbX]
def hbD (p : List Op × Dk × List En) : PyData := .tuple [.tuple (opsD p.1), diskD p.2.1, .tuple (p.2.2.map enD)]
def tbD (p : Tst × Dk × Bool) : PyData := .tuple [tstD p.1, diskD p.2.1, .bool p.2.2]
abbrev nn : Option E := none
theorem hand_ok : ∃ m, x_law_by_hand [] [] = .ok (.dat (.list (HB.map hbD))) m := by
  have hz := szl
  unfold x_law_by_hand y_law_by_hand
  have hf := forL_foldT (ws := [3, 4, 5]) (n := none) (dg := xgTup 3 (xgCons (xgName 3) (xgCons (xgName 4) (xgCons (xgName 5) xgNil)))) (tb := xDrop (xApp (xVar 2) (xTup (xCons (xTup (xCons (xTup (xCons (xC (.str "if")) (xCons (xVar 3) (xCons (xVar 0) (xCons (xVar 1) xNil))))) xNil)) (xCons (xVar 4) (xCons (xIx (xLst (xCons (xVar 1) (xCons (xVar 0) xNil))) (xCB yInt (xCons (xVar 5) xNil))) xNil)))))) tbD TB
    (fun _ => [some (.dat (.tuple (opsD YES))), some (.dat (.tuple (opsD NO))), some (.loc 0), nn, nn, nn, nn]) (fun l : List (List Op × Dk × List En) => [.lst ((l.map hbD).map E.dat)]) (fun l p => l ++ [tbH p]) (fun i l => l.length ≤ i) (s := []) (Nat.le_refl _) fun i x l hx hI => by
    obtain ⟨t, d, b⟩ := x
    have hil : i < 12 := (List.getElem?_eq_some_iff.mp hx).1
    have hll : ((l.map hbD).map E.dat).length < sizeLine := by rw [List.length_map, List.length_map]; omega
    refine ⟨by rw [List.length_append]; exact Nat.succ_le_succ hI, ?_⟩
    have hap : ((l.map hbD).map E.dat) ++ [E.dat (hbD (tbH (t, d, b)))] = ((l ++ [tbH (t, d, b)]).map hbD).map E.dat := by rw [List.map_append, List.map_append]; rfl
    unfold tbD
    cases b with
    | true =>
      have hap' : ((l.map hbD).map E.dat) ++ [E.dat (.tuple [.tuple [.tuple [.str "if", tstD t, .tuple (opsD YES), .tuple (opsD NO)]], diskD d, .tuple (opsD YES)])] = ((l ++ [tbH (t, d, true)]).map hbD).map E.dat := by
        rw [← hap]
        unfold hbD tbH
        rw [opsD, opsD, opD]
        rfl
      simp (disch := first | exact hll | first | omega | (simp only [List.length_cons, List.length_nil, Int.reduceToNat]; omega)) only [xX, hap']
      exact ⟨_, _, rfl, rfl, rfl⟩
    | false =>
      have hap' : ((l.map hbD).map E.dat) ++ [E.dat (.tuple [.tuple [.tuple [.str "if", tstD t, .tuple (opsD YES), .tuple (opsD NO)]], diskD d, .tuple (opsD NO)])] = ((l ++ [tbH (t, d, false)]).map hbD).map E.dat := by
        rw [← hap]
        unfold hbD tbH
        rw [opsD, opsD, opD]
        rfl
      simp (disch := first | exact hll | first | omega | (simp only [List.length_cons, List.length_nil, Int.reduceToNat]; omega)) only [xX, Bool.false_eq_true, if_false, hap']
      exact ⟨_, _, rfl, rfl, rfl⟩
  have e0 : opsD YES = [.tuple [.str "sync"]] := by rw [opsD, opsD, opD]
  have e1 : opsD NO = [.tuple [.str "flush", .str "b"]] := by rw [opsD, opsD, opD]
  have hf1 := hf.1
  have hL : TB.foldl (fun l p => l ++ [tbH p]) [] = TB.map tbH := by rfl
  rw [hL] at hf1
  have hHB : HB.map hbD = (TB.map tbH).map hbD ++ [hbD hbX] := by unfold HB; rw [List.map_append]; rfl
  have hsz : ((TB.map tbH).map hbD).length = 12 := rfl
  rw [hHB]
  generalize (TB.map tbH).map hbD = M at hf1 hsz
  have hsz' : M.length + ([hbD hbX] : List PyData).length ≤ sizeLine := by rw [hsz]; show 12 + 1 ≤ _; omega
  unfold TB at hf1
  simp only [tbD, tstD, diskD, entD, ctD, e0, e1, List.map_cons, List.map_nil] at hf1
  have hX : hbD hbX = .tuple [.tuple (opsD hbX.1), .tuple [.tuple [.str "a", .int 5]], .tuple [.tuple [.str "put", .str "a", .str "X"], .tuple [.str "move", .str "a", .str "b"], .tuple [.str "sync"]]] := rfl
  have hO : opsD hbX.1 = [.tuple [.str "write", .str "a", .str "X"], .tuple [.str "if", .tuple [.str "is", .str "a", .str "X"], .tuple [.tuple [.str "rename", .str "a", .str "b"]], .tuple []], .tuple [.str "if", .tuple [.str "exists", .str "a"], .tuple [.tuple [.str "flush", .str "b"]], .tuple [.tuple [.str "if", .tuple [.str "same", .str "a", .str "b"], .tuple [.tuple [.str "flush", .str "b"]], .tuple [.tuple [.str "sync"]]]]]] := by rfl
  rw [hX, hO] at hsz' ⊢
  simp (disch := first | exact hsz' | first | omega | (simp only [List.length_cons, List.length_nil, Int.reduceToNat]; omega)) only [xX, hf1, slotL, frG, frE, frO, List.map_cons, List.map_nil, Option.map_some, Option.map_none, if_true]
  exact ⟨_, rfl⟩
theorem opS_chk : ∀ p ∈ HB, (OkL p.1 ∧ dpL p.1 ≤ 19 ∧ szL p.1 ≤ 100) := by
  intro p hp
  unfold HB TB at hp
  simp only [tbH, hbX, List.map_cons, List.map_nil, List.cons_append, List.nil_append, List.mem_cons, List.not_mem_nil, or_false] at hp
  rcases hp with rfl | rfl | rfl | rfl | rfl | rfl | rfl | rfl | rfl | rfl | rfl | rfl | rfl <;> (simp only [OkL, OkO, OkT, dpL, dpO, szL, szO]; decide +kernel)
theorem dk_chk : ∀ p ∈ HB, ((ksD p.2.1).Nodup ∧ (∀ q ∈ p.2.1, Pl q.1 ∧ CtOk q.2) ∧ p.2.1.length ≤ 100) := by decide +kernel
theorem run_chk : ∀ p ∈ HB, (run mkA 20 p.1 (p.2.1, [])).2 = p.2.2 := by
  intro p hp
  unfold HB TB at hp
  simp only [tbH, hbX, List.map_cons, List.map_nil, List.cons_append, List.nil_append, List.mem_cons, List.not_mem_nil, or_false] at hp
  rcases hp with rfl | rfl | rfl | rfl | rfl | rfl | rfl | rfl | rfl | rfl | rfl | rfl | rfl <;> rfl
abbrev W11 : List Str := ["write", "write", "copy", "copy", "rename", "delete", "sync", "flush"]
abbrev W11D : List PyData := [.str "write", .str "write", .str "copy", .str "copy", .str "rename", .str "delete", .str "sync", .str "flush"]
theorem u_k {X Y Z : PyData} : keysP [(.str "left", X), (.str "room", Y), (.str "words", Z)] = some [.inr "left", .inr "room", .inr "words"] := rfl
theorem u_n : decide ([Sum.inr ("left" : Str), Sum.inr ("room" : Str), Sum.inr ("words" : Str)] : List Key).Nodup = true := by decide +kernel
theorem u_x {X Y Z : PyData} : dictX1 (.dat (.dict [(.str "left", X), (.str "room", Y), (.str "words", Z)])) = some [(.inr "left", X), (.inr "room", Y), (.inr "words", Z)] := rfl
theorem kit_m (ss ts : List Str) : kitM ss ts = .dic [(.inr "names", .dat (.list (ss.map .str))), (.inr "texts", .dat (.list (ts.map .str)))] := rfl
theorem u_u (ss ts : List Str) : updE [(.inr "names", .dat (.list (ss.map .str))), (.inr "texts", .dat (.list (ts.map .str)))] [(.inr "left", .int 8), (.inr "room", .int 24), (.inr "words", .list [.str "write", .str "write", .str "copy", .str "copy", .str "rename", .str "delete", .str "sync", .str "flush"])] = kitL ss ts 8 (exR W11 24) := by rfl
abbrev lawB (C : Addr) : XS := (xSeq (xAsg (xCallA 2 x_law_kit (xCons (xVar 1) (xCons (xOp yAdd (xC (.int 3)) (xCallN 2 2 x_law_draw (xCons (xVar 1) (xCons (xC (.int 3)) xNil)))) xNil))) (xgName 4)) 
    (xSeq (xDrop (xUpd (xVar 4) (xDisp (xpCons (xC (.str "left")) (xC (.int 8)) (xpCons (xC (.str "room")) (xC (.int 24)) (xpCons (xC (.str "words")) (xVar 2) xpNil)))))) 
    (xSeq (xPar 5 6 (xCons (xCallT 3 (x_law_script 20) (xCons (xVar 1) (xCons (xVar 4) (xCons (xC (.int 3)) xNil)))) (xCons (xCallT 3 x_law_disk (xCons (xVar 1) (xCons (xVar 4) (xCons (xLst (xCons (xC (.str "other")) xNil)) xNil)))) xNil))) 
    (xSeq (xAsg (xCB yTuple (xCons (xCallT 2 (x_law_entries 20) (xCons (xVar 5) (xCons (xDictP true (xCons (xCB yList (xCons (xVar 6) xNil)) xNil)) xNil))) xNil)) (xgName 7)) 
    (xIfS (xOr (xB (xOp (yEqN true) (xCB yReprA (xCons (xCallN 2 0 (x_trace C) (xCons (xVar 5) (xCons (xVar 6) xNil))) xNil)) (xCB yReprA (xCons (xVar 7) xNil)))) (xB (xOp (yEqN true) (xCB yReprA (xCons (xCallK (gK 1 1 [0, 1]) 2 0 (x_trace C) (xCons (xVar 5) xNil) (xCons (xVar 6) xNil)) xNil)) (xCB yReprA (xCons (xVar 7) xNil))))) (xRet (xC (.bool false))) xNext)))))
theorem main (C : Addr) (ns : List Int) (hn : ns.length ≤ 63) : ∃ m, x_law C [.scr ns] [] = .ok (.dat (.bool true)) m := by
  have hz := szl
  obtain ⟨c, i, hD, D⟩ := deck_ok hn
  unfold x_law y_law
  simp (disch := first | omega | (simp only [List.length_cons, List.length_nil, Int.reduceToNat]; omega)) only [xX, hD, deckX_len]
  obtain ⟨g', m', e, c', j', rfl, rfl, D', _⟩ := forL_inv (ws := [3, 4, 5, 6, 7]) (n := some 2) (dg := xgName 3) (tb := lawB C) (items := rangeD 0 (30 : Int).toNat)
    (g := [some (.scr ns), some (.loc 1), some (.dat (.list W11D)), none, none, none, none, none]) (m := deckX c i 0)
    (fun k g m => ∃ (c' : List Int) (j' : Int), g = [some (.scr ns), some (.loc 1), some (.dat (.list W11D)), none, none, none, none, none] ∧ m = deckX c' i j' ∧ Dc c' i j' ∧ j' ≤ 400 * (k : Int))
    ⟨c, 0, rfl, rfl, D, by omega⟩ fun q x g m hx hI => by
      obtain ⟨c, j, rfl, rfl, D, hj⟩ := hI
      obtain ⟨hq, rfl⟩ := rangeD_get hx
      have hq30 : q < 30 := hq
      obtain ⟨r, c0, h0, hr, D0⟩ := draw_at (n := 3) ⟨by decide, by decide⟩ D (by omega)
      obtain ⟨a, rfl⟩ : ∃ a : Nat, r = a := ⟨r.toNat, by omega⟩
      have ha : (3 : Int) + (a : Int) = ((3 + a : Nat) : Int) := by omega
      obtain ⟨ss, ts, c1, h1, hsl, hsn, hsp, htl, htp, D1⟩ := kit_ok (n := 3 + a) ⟨by omega, by omega⟩ D0 (by omega)
      have K : KO ss ts W11 := ⟨by omega, by omega, hsn, hsp, by omega, by omega, htp, by decide, by decide, by decide +kernel⟩
      have hS := scr_ok (i := i) K 19 3 (by decide)
      obtain ⟨l, c2, j2, n2, r2, h2, G⟩ := scr_call hS (c := c1) (j := j + 1 + 3) (n := 8) (r := 24) (rest := []) D1 (by omega) ⟨by decide, by decide⟩ (by decide) (by decide) (fun _ h => absurd h List.not_mem_nil)
      have h2' : kCallT 3 (x_law_script 20) [.loc 1, .loc 3, .dat (.int 3)] (deckX c1 i (j + 1 + 3) ++ [.gone, .dic (kitL ss ts 8 (exR W11 24))]) = .ok (.dat (.tuple (l.map opD))) (deckX c2 i j2 ++ [.gone, .dic (kitL ss ts n2 (exR W11 r2))]) := h2
      have g1 := G.sz
      have g2 := G.r0
      have g3 := G.jj
      have g4 := G.dp
      have hj20 := G.dc.j0
      obtain ⟨d, c6, j6, more, h6, hdn, hde, hdl, D6, hj6⟩ := disk_ok (ss := ss) (ts := ts) (ms := ["other"]) (n := n2) (by omega) hsp ⟨by omega, by omega⟩ htp (by decide) (fun t ht => pl_w (by
        simp only [List.mem_cons, List.not_mem_nil, or_false] at ht
        rcases ht with rfl; simp)) (extR W11 r2) G.dc (by omega) hj20
      have hin : ∀ (c : List Int) (j : Int) (n r : Int), inM (deckX c i j ++ [OD.gone, OD.dic (kitL ss ts n (exR W11 r))]) := fun c j n r => ls_in (rest := []) (fun _ h => absurd h List.not_mem_nil)
      have h6' : kCallT 3 x_law_disk [.loc 1, .loc 3, .dat (.list [.str "other"])] (deckX c2 i j2 ++ [OD.gone, .dic (kitL ss ts n2 (exR W11 r2))]) = .ok (.dat (diskD d)) (deckX c6 i j6 ++ [OD.gone, .dic (kitL ss ts n2 (exR W11 r2))]) := callT (more := more) rfl (hin _ _ _ _) rfl rfl (hin _ _ _ _) (by rw [List.append_assoc]; exact h6)
      obtain ⟨es, e1, e2, e3, e4⟩ := both_ok (C := C) (l := l) (d := d) (by omega) (by omega) G.ok hdn hde (by omega)
      have e4' := e4 (deckX c6 i j6 ++ [OD.gone, .dic (kitL ss ts n2 (exR W11 r2)), .dic (kvE d)]) 4 rfl (ls_in (rest := [.dic (kvE d)]) fun o ho => by rw [List.mem_singleton.mp ho]; exact kvE_in' _ _)
      have hel : (es.map enD).length ≤ sizeLine := by rw [List.length_map]; omega
      have hdl' : (d.map entD).length ≤ sizeLine := by rw [List.length_map]; omega
      have r2' := rep_of (ens_bd e1 e2) (by decide) (by decide)
      have hla : deckX c6 i j6 ++ [OD.gone, .dic (kitL ss ts n2 (exR W11 r2))] ++ [OD.dic (kvE d)] = deckX c6 i j6 ++ [OD.gone, .dic (kitL ss ts n2 (exR W11 r2)), .dic (kvE d)] := by rw [List.append_assoc]; rfl
      rw [opsD_map] at e3 e4'
      unfold diskD at h6' e3
      have hl4 : (deckX c6 i j6 ++ [OD.gone, .dic (kitL ss ts n2 (exR W11 r2))]).length = 4 := rfl
      simp (disch := first | exact hel | exact hdl' | first | omega | (simp only [List.length_cons, List.length_nil, Int.reduceToNat]; omega)) only [xX, hl4, deckX_s4, h0.1, ha, h1, kit_m, deckX_g3, deckX_s3, u_k, u_n, u_x, u_u, h2', h6', pairs1X, pairs_ents, keyP_new hdn, keyP_E, hla, e4', r2', e3]
      exact ⟨_, _, rfl, c6, j6, rfl, gc_dk rfl, D6, by omega⟩
  have hc : ∀ m g, g = [some (E.scr ns), some (.loc 1), some (.dat (.list W11D)), none, none, none, none, none] → lcL (xgTup 3 (xgCons (xgName 5) (xgCons (xgName 6) (xgCons (xgName 7) xgNil)))) (xB (xOp (yEqN true) (xCB yReprA (xCons (xCallN 2 0 (x_trace C) (xCons (xVar 5) (xCons (xVar 6) xNil))) xNil)) (xCB yReprA (xCons (xVar 7) xNil)))) (xVar 5) g (HB.map hbD) m = .ok ((HB.map hbD).filterMap fun _ => none) m := fun m g hg => lcL_filterMap (f := fun _ => none) fun x hx k => by
    subst hg
    obtain ⟨p, hp, rfl⟩ := List.mem_map.mp hx
    obtain ⟨q1, q2, q3⟩ := opS_chk p hp
    obtain ⟨r1, r2, r3⟩ := dk_chk p hp
    have r0 := run_chk p hp
    have ht := trace_ok (C := C) (l := p.1) (d := p.2.1) q2 (by omega) q1 r1 r2
    have hok := (run_ok good_A 20 p.1 (p.2.1, []) q1 ⟨r1, r2, fun e he => absurd he List.not_mem_nil⟩).2.2
    have hle := (run_small good_A 20 p.1 (p.2.1, []) r1).1.2
    rw [r0] at ht hok hle
    have z : ([] : List En).length = 0 := rfl
    dsimp only at hle
    have rp := rep_of (ens_bd hok (by omega)) (by decide) (by decide)
    have ht' : ∀ m, kCallN 2 0 (x_trace C) [.dat (.tuple (opsD p.1)), .dat (diskD p.2.1)] m = .ok (.dat (.tuple (p.2.2.map enD))) m := fun m => call0 (ds := [.tuple (opsD p.1), diskD p.2.1]) rfl rfl ht
    unfold hbD
    simp (disch := first | omega | (simp only [List.length_cons, List.length_nil, Int.reduceToNat]; omega)) only [xX, ht', rp]
  have hb' : ∀ m, kCallN 0 0 x_law_by_hand [] m = .ok (.dat (.list (HB.map hbD))) m := fun m => call0 (ds := []) rfl rfl hand_ok.choose_spec
  have hc0 : ((HB.map hbD).filterMap fun _ => (none : Option PyData)) = [] := by simp
  have hhl : (HB.map hbD).length ≤ sizeLine := by rw [List.length_map]; show 13 ≤ _; omega
  rw [e]
  simp (disch := first | exact hhl | first | omega | (simp only [List.length_cons, List.length_nil, Int.reduceToNat]; omega)) only [xX, hb', hc _ _ rfl, hc0]
  exact ⟨_, rfl⟩
end LL
/-! the defs of the text, by rules (printed by genx.py) -/
namespace LL
open PySem PySem.Spec PyProof.Rows L2 DL
def topS (i : Nat) : Stmt := PySem.Challenge.pw_leftlying_k11_ifs_and_tests.main.body.getD i (.Pass ⟨0, 0, 0, 0⟩)
abbrev s_as_dict : Stmt := topS 1
theorem sc_as_dict : FnScope N_as_dict p_as_dicts (defScope s_as_dict) := ⟨rfl, rfl, rfl, by decide +kernel, rfl, by decide +kernel, by decide +kernel⟩
abbrev s_make_change : Stmt := topS 5
theorem sc_make_change : FnScope N_make_change p_make_changes (defScope s_make_change) := ⟨rfl, rfl, rfl, by decide +kernel, rfl, by decide +kernel, by decide +kernel⟩
abbrev s_Runner_is_true : Stmt := inClass (topS 6) 5
theorem sc_Runner_is_true : FnScope N_Runner_is_true p_Runner_is_trues (defScope s_Runner_is_true) := ⟨rfl, rfl, rfl, by decide +kernel, rfl, by decide +kernel, by decide +kernel⟩
abbrev s_Runner_change_of : Stmt := inClass (topS 6) 4
theorem sc_Runner_change_of : FnScope N_Runner_change_of p_Runner_change_ofs (defScope s_Runner_change_of) := ⟨rfl, rfl, rfl, by decide +kernel, rfl, by decide +kernel, by decide +kernel⟩
abbrev s_Runner_execute_change : Stmt := inClass (topS 6) 3
theorem sc_Runner_execute_change : FnScope N_Runner_execute_change p_Runner_execute_changes (defScope s_Runner_execute_change) := ⟨rfl, rfl, rfl, by decide +kernel, rfl, by decide +kernel, by decide +kernel⟩
abbrev s_Runner_execute : Stmt := inClass (topS 6) 2
theorem sc_Runner_execute : FnScope N_Runner_execute p_Runner_executes (defScope s_Runner_execute) := ⟨rfl, rfl, rfl, by decide +kernel, rfl, by decide +kernel, by decide +kernel⟩
abbrev s_Runner_execute_all : Stmt := inClass (topS 6) 1
theorem sc_Runner_execute_all : FnScope N_Runner_execute_all p_Runner_execute_alls (defScope s_Runner_execute_all) := ⟨rfl, rfl, rfl, by decide +kernel, rfl, by decide +kernel, by decide +kernel⟩
abbrev s_Runner_init : Stmt := inClass (topS 6) 0
theorem sc_Runner_init : FnScope N_Runner_init p_Runner_inits (defScope s_Runner_init) := ⟨rfl, rfl, rfl, by decide +kernel, rfl, by decide +kernel, by decide +kernel⟩
abbrev s_trace : Stmt := topS 7
theorem sc_trace : FnScope N_trace p_traces (defScope s_trace) := ⟨rfl, rfl, rfl, by decide +kernel, rfl, by decide +kernel, by decide +kernel⟩
abbrev s_law_deck : Stmt := topS 9
theorem sc_law_deck : FnScope N_law_deck p_law_decks (defScope s_law_deck) := ⟨rfl, rfl, rfl, by decide +kernel, rfl, by decide +kernel, by decide +kernel⟩
abbrev s_law_draw : Stmt := topS 10
theorem sc_law_draw : FnScope N_law_draw p_law_draws (defScope s_law_draw) := ⟨rfl, rfl, rfl, by decide +kernel, rfl, by decide +kernel, by decide +kernel⟩
abbrev s_law_pick : Stmt := topS 11
theorem sc_law_pick : FnScope N_law_pick p_law_picks (defScope s_law_pick) := ⟨rfl, rfl, rfl, by decide +kernel, rfl, by decide +kernel, by decide +kernel⟩
abbrev s_law_kit : Stmt := topS 12
theorem sc_law_kit : FnScope N_law_kit p_law_kits (defScope s_law_kit) := ⟨rfl, rfl, rfl, by decide +kernel, rfl, by decide +kernel, by decide +kernel⟩
abbrev s_law_test : Stmt := topS 13
theorem sc_law_test : FnScope N_law_test p_law_tests (defScope s_law_test) := ⟨rfl, rfl, rfl, by decide +kernel, rfl, by decide +kernel, by decide +kernel⟩
abbrev s_law_operation : Stmt := topS 14
theorem sc_law_operation : FnScope N_law_operation p_law_operations (defScope s_law_operation) := ⟨rfl, rfl, rfl, by decide +kernel, rfl, by decide +kernel, by decide +kernel⟩
abbrev s_law_script : Stmt := topS 15
theorem sc_law_script : FnScope N_law_script p_law_scripts (defScope s_law_script) := ⟨rfl, rfl, rfl, by decide +kernel, rfl, by decide +kernel, by decide +kernel⟩
abbrev s_law_disk : Stmt := topS 16
theorem sc_law_disk : FnScope N_law_disk p_law_disks (defScope s_law_disk) := ⟨rfl, rfl, rfl, by decide +kernel, rfl, by decide +kernel, by decide +kernel⟩
abbrev s_law_make : Stmt := topS 17
theorem sc_law_make : FnScope N_law_make p_law_makes (defScope s_law_make) := ⟨rfl, rfl, rfl, by decide +kernel, rfl, by decide +kernel, by decide +kernel⟩
abbrev s_law_so : Stmt := topS 18
theorem sc_law_so : FnScope N_law_so p_law_sos (defScope s_law_so) := ⟨rfl, rfl, rfl, by decide +kernel, rfl, by decide +kernel, by decide +kernel⟩
abbrev s_law_entries : Stmt := topS 19
theorem sc_law_entries : FnScope N_law_entries p_law_entriess (defScope s_law_entries) := ⟨rfl, rfl, rfl, by decide +kernel, rfl, by decide +kernel, by decide +kernel⟩
abbrev s_law_by_hand : Stmt := topS 23
theorem sc_law_by_hand : FnScope N_law_by_hand p_law_by_hands (defScope s_law_by_hand) := ⟨rfl, rfl, rfl, by decide +kernel, rfl, by decide +kernel, by decide +kernel⟩
abbrev s_law : Stmt := topS 24
theorem sc_law : FnScope N_law p_laws (defScope s_law) := ⟨rfl, rfl, rfl, by decide +kernel, rfl, by decide +kernel, by decide +kernel⟩
theorem kw_trace_1_disk : KwOk "trace" s_trace p_traces ["disk"] 1 1 [0, 1] := fun _ _ _ _ _ _ us ws h1 h2 => match us, ws, h1, h2 with | [_], [_], _, _ => rfl
section
variable {P : Program} {w : World} {K : PySem.W.Frag} {mg : Str → Option Value} {base : Heap}
theorem b_as_dict {f : Addr} (cdv : Value) (A : Around) (outer : List Env) (s : Shared) (H : Hp) (Xe : XK) (hG : (A.deeper (envOfC "as_dict" (defScope s_as_dict) s.heap.objs.size f cdv)).guards = some [])
    (hr : Room 0 (A.deeper (envOfC "as_dict" (defScope s_as_dict) s.heap.objs.size f cdv))) : DSs (cxOf CX0 P w K mg base N_as_dict "as_dict" (defScope s_as_dict) f cdv A outer s H Xe).nox (defBody s_as_dict) (ofS xp0 (y_as_dict)) := by
  have hu := hu_of hr
  have hu64 := hr.units
  exact (ds_one (tS (ds_ret (tE (d_dc true [("name", 1), ("content", 2)] rfl sc_as_dict.nd (tI (di_any (tE (dv 0) i_Var)) ii_A) (blkOk_by (N := N_as_dict) (sc := defScope s_as_dict) (by decide +kernel)) (tCG (cg_two (i := 1) (j := 2) rfl sc_as_dict.nd) ig_Two) (tCT ct_nil i_Yes) (ce_of fun _ _ _ _ _ => (tE (dv 1) i_Var)) (ce_of fun _ _ _ _ _ => (tE (dv 2) i_Var))) i_Dc)) i_Ret))
theorem b_make_change {f : Addr} (cdv : Value) (A : Around) (outer : List Env) (s : Shared) (H : Hp) (Xe : XK) (hG : (A.deeper (envOfC "make_change" (defScope s_make_change) s.heap.objs.size f cdv)).guards = some [])
    (hr : Room 0 (A.deeper (envOfC "make_change" (defScope s_make_change) s.heap.objs.size f cdv))) : DSs (cxOf CX0 P w K mg base N_make_change "make_change" (defScope s_make_change) f cdv A outer s H Xe).nox (defBody s_make_change) (ofS xp0 (y_make_change)) := by
  have hu := hu_of hr
  have hu64 := hr.units
  exact (tSs (ds_cons (tS (ds_asg (tE (dv 1) i_Var) (tG (dg_tupS rfl (tGs (dgs_cons (tG (dg_name (i := 2) sc_make_change.nd) ig_Name) (tGs (dgs_cons (tG (dg_name (i := 3) sc_make_change.nd) ig_Name) (tGs (dgs_cons (tG (dg_name (i := 4) sc_make_change.nd) ig_Name) (tGs dgs_nil ig_Nil)) ig_Cons)) ig_Cons)) ig_Cons)) ig_TupS)) i_Asg)
      (tSs (ds_cons (tS (ds_if (tT (dt_cmp (op_eqA hu64) op2_eq (tE (dv 2) i_Var) (tE d_str i_C) (nomark _)) (i_BOp (ok_EqN false))) (tSs (ds_cons (tS (ds_asg (tE (d_ix hu (tE (dv 4) i_Var) (tE d_int i_C)) i_Ix) (tG (dg_sub hu (tE (dv 0) i_Var) (tE (dv 3) i_Var)) ig_Sub)) i_Asg)
      (ds_one (tS ds_retN i_RetN))) i_Seq) (tSs ds_nil i_Next)) i_IfS)
      (tSs (ds_cons (tS (ds_set (i := 5) sc_make_change.nd (tE (d_pop2 (tE (dv 0) i_Var) (tE (dv 3) i_Var) (tE d_non i_C)) i_Pop2)) i_Asg1)
      (ds_one (tS (ds_if (tT (dt_cmp (op_eqA hu64) op2_eq (tE (dv 2) i_Var) (tE d_str i_C) (nomark _)) (i_BOp (ok_EqN false))) (tSs (ds_cons (tS (ds_expr (tE (d_pop2 (tE (dv 0) i_Var) (tE (d_ix hu (tE (dv 4) i_Var) (tE d_int i_C)) i_Ix) (tE d_non i_C)) i_Pop2)) i_Drop)
      (ds_one (tS (ds_if (tT (dt_cmp op_notN op2_notN (tE (dv 5) i_Var) (tE d_non i_C) (nomark _)) (i_BOp (ok_IsN true))) (ds_one (tS (ds_asg (tE (dv 5) i_Var) (tG (dg_sub hu (tE (dv 0) i_Var) (tE (d_ix hu (tE (dv 4) i_Var) (tE d_int i_C)) i_Ix)) ig_Sub)) i_Asg)) (tSs ds_nil i_Next)) i_IfS))) i_Seq) (tSs ds_nil i_Next)) i_IfS))) i_Seq)) i_Seq)) i_Seq)
theorem b_Runner_is_true {cRunner : Addr} (cls_Runner : Cls K cRunner) (nf_Runner_contents_seen : NoAttr K cRunner "contents_seen") {f : Addr} (cdv : Value) (A : Around) (outer : List Env) (s : Shared) (H : Hp) (Xe : XK) (hG : (A.deeper (envOfC "Runner.is_true" (defScope s_Runner_is_true) s.heap.objs.size f cdv)).guards = some [])
    (hr : Room 0 (A.deeper (envOfC "Runner.is_true" (defScope s_Runner_is_true) s.heap.objs.size f cdv))) : DSs (cxOf CX0 P w K mg base N_Runner_is_true "Runner.is_true" (defScope s_Runner_is_true) f cdv A outer s H Xe).nox (defBody s_Runner_is_true) (ofS xp0 (y_Runner_is_true cRunner)) := by
  have hu := hu_of hr
  have hu64 := hr.units
  exact (tSs (ds_cons (tS (ds_asg (tE (dv 1) i_Var) (tG (dg_tupS rfl (tGs (dgs_cons (tG (dg_name (i := 2) sc_Runner_is_true.nd) ig_Name) (tGs (dgs_cons (tG (dg_name (i := 3) sc_Runner_is_true.nd) ig_Name) (tGs (dgs_cons (tG (dg_name (i := 4) sc_Runner_is_true.nd) ig_Name) (tGs dgs_nil ig_Nil)) ig_Cons)) ig_Cons)) ig_Cons)) ig_TupS)) i_Asg)
      (tSs (ds_cons (tS (ds_set (i := 5) sc_Runner_is_true.nd (tE (d_get1A hu (tE (d_fld cls_Runner nf_Runner_contents_seen (tE (dv 0) i_Var)) i_Fld) (tE (dv 3) i_Var)) i_Get1A)) i_Asg1)
      (tSs (ds_cons (tS (ds_if (tT (dt_cmp (op_eqA hu64) op2_eq (tE (dv 2) i_Var) (tE d_str i_C) (nomark _)) (i_BOp (ok_EqN false))) (ds_one (tS (ds_ret (tE (d_cmp op_notN op2_notN (tE (dv 5) i_Var) (tE d_non i_C) (nomark _)) (i_Op (ok_IsN true)))) i_Ret)) (tSs ds_nil i_Next)) i_IfS)
      (tSs (ds_cons (tS (ds_set (i := 6) sc_Runner_is_true.nd (tE (d_if (tT (dt_cmp (op_eqA hu64) op2_eq (tE (dv 2) i_Var) (tE d_str i_C) (nomark _)) (i_BOp (ok_EqN false))) (tE (d_ix hu (tE (dv 4) i_Var) (tE d_int i_C)) i_Ix) (tE (d_get1A hu (tE (d_fld cls_Runner nf_Runner_contents_seen (tE (dv 0) i_Var)) i_Fld) (tE (d_ix hu (tE (dv 4) i_Var) (tE d_int i_C)) i_Ix)) i_Get1A)) i_If)) i_Asg1)
      (ds_one (tS (ds_ret (tE (d_and (tE (d_cmp op_notN op2_notN (tE (dv 5) i_Var) (tE d_non i_C) (nomark _)) (i_Op (ok_IsN true))) (d_one (tE (d_cmp (op_eqA hu64) op2_eq (tE (dv 5) i_Var) (tE (dv 6) i_Var) (nomark _)) (i_Op (ok_EqN false))))) i_AndV)) i_Ret))) i_Seq)) i_Seq)) i_Seq)) i_Seq)
theorem b_Runner_change_of {cRunner : Addr} (cls_Runner : Cls K cRunner) (nf_Runner_contents_seen : NoAttr K cRunner "contents_seen") {f : Addr} (cdv : Value) (A : Around) (outer : List Env) (s : Shared) (H : Hp) (Xe : XK) (hG : (A.deeper (envOfC "Runner.change_of" (defScope s_Runner_change_of) s.heap.objs.size f cdv)).guards = some [])
    (hr : Room 0 (A.deeper (envOfC "Runner.change_of" (defScope s_Runner_change_of) s.heap.objs.size f cdv))) : DSs (cxOf CX0 P w K mg base N_Runner_change_of "Runner.change_of" (defScope s_Runner_change_of) f cdv A outer s H Xe).nox (defBody s_Runner_change_of) (ofS xp0 (y_Runner_change_of cRunner)) := by
  have hu := hu_of hr
  have hu64 := hr.units
  exact (tSs (ds_cons (tS (ds_set (i := 3) sc_Runner_change_of.nd (tE (d_ix hu (tE (dv 2) i_Var) (tE d_int i_C)) i_Ix)) i_Asg1)
      (tSs (ds_cons (tS (ds_if (tT (dt_cmp (op_eqA hu64) op2_eq (tE (dv 1) i_Var) (tE d_str i_C) (nomark _)) (i_BOp (ok_EqN false))) (ds_one (tS (ds_ret (tE (d_tup (tA (da_cons (tE d_str i_C) (tA (da_cons (tE (dv 3) i_Var) (tA (da_cons (tE (d_ix hu (tE (dv 2) i_Var) (tE d_int i_C)) i_Ix) (tA da_nil i_Nil)) i_Cons)) i_Cons)) i_Cons)) i_Tup)) i_Ret)) (tSs ds_nil i_Next)) i_IfS)
      (tSs (ds_cons (tS (ds_set (i := 4) sc_Runner_change_of.nd (tE (d_get1A hu (tE (d_fld cls_Runner nf_Runner_contents_seen (tE (dv 0) i_Var)) i_Fld) (tE (dv 3) i_Var)) i_Get1A)) i_Asg1)
      (tSs (ds_cons (tS (ds_if (tT (dt_cmp op_isN op2_isN (tE (dv 4) i_Var) (tE d_non i_C) (nomark _)) (i_BOp (ok_IsN false))) (ds_one (tS (ds_ret (tE d_non i_C)) i_Ret)) (tSs ds_nil i_Next)) i_IfS)
      (tSs (ds_cons (tS (ds_if (tT (dt_cmp (op_eqA hu64) op2_eq (tE (dv 1) i_Var) (tE d_str i_C) (nomark _)) (i_BOp (ok_EqN false))) (ds_one (tS (ds_ret (tE (d_tup (tA (da_cons (tE d_str i_C) (tA (da_cons (tE (d_ix hu (tE (dv 2) i_Var) (tE d_int i_C)) i_Ix) (tA (da_cons (tE (dv 4) i_Var) (tA da_nil i_Nil)) i_Cons)) i_Cons)) i_Cons)) i_Tup)) i_Ret)) (tSs ds_nil i_Next)) i_IfS)
      (ds_one (tS (ds_ret (tE (d_if (tT (dt_cmp (op_eqA hu64) op2_eq (tE (dv 1) i_Var) (tE d_str i_C) (nomark _)) (i_BOp (ok_EqN false))) (tE (d_tup (tA (da_cons (tE d_str i_C) (tA (da_cons (tE (dv 3) i_Var) (tA (da_cons (tE (d_ix hu (tE (dv 2) i_Var) (tE d_int i_C)) i_Ix) (tA da_nil i_Nil)) i_Cons)) i_Cons)) i_Cons)) i_Tup) (tE (d_tup (tA (da_cons (tE d_str i_C) (tA (da_cons (tE (dv 3) i_Var) (tA da_nil i_Nil)) i_Cons)) i_Cons)) i_Tup)) i_If)) i_Ret))) i_Seq)) i_Seq)) i_Seq)) i_Seq)) i_Seq)
theorem b_Runner_execute_change {cRunner : Addr} (C_Runner_change_of : CalM P w K mg base 1 cRunner "change_of" p_Runner_change_ofs (ofF xp0 (x_Runner_change_of cRunner))) (C_make_change : Cal P w K mg base 1 "make_change" s_make_change p_make_changes (ofF xp0 x_make_change)) (cls_Runner : Cls K cRunner) (nf_Runner_contents_seen : NoAttr K cRunner "contents_seen") (nf_Runner_entries_made : NoAttr K cRunner "entries_made") {f : Addr} (cdv : Value) (A : Around) (outer : List Env) (s : Shared) (H : Hp) (Xe : XK) (hG : (A.deeper (envOfC "Runner.execute_change" (defScope s_Runner_execute_change) s.heap.objs.size f cdv)).guards = some [])
    (hr : Room 1 (A.deeper (envOfC "Runner.execute_change" (defScope s_Runner_execute_change) s.heap.objs.size f cdv))) : DSs (cxOf CX0 P w K mg base N_Runner_execute_change "Runner.execute_change" (defScope s_Runner_execute_change) f cdv A outer s H Xe).nox (defBody s_Runner_execute_change) (ofS xp0 (y_Runner_execute_change cRunner)) := by
  have hu := hu_of hr
  have hu64 := hr.units
  exact (tSs (ds_cons (tS (ds_set (i := 3) sc_Runner_execute_change.nd (tE (d_meth cls_Runner C_Runner_change_of hG hr (by decide) (tE (dv 0) i_Var) (tA (da_cons (tE (dv 1) i_Var) (tA (da_cons (tE (dv 2) i_Var) (tA da_nil i_Nil)) i_Cons)) i_Cons)) i_Meth)) i_Asg1)
      (ds_one (tS (ds_if (tT (dt_cmp op_notN op2_notN (tE (dv 3) i_Var) (tE d_non i_C) (nomark _)) (i_BOp (ok_IsN true))) (tSs (ds_cons (tS (ds_expr (tE (d_app (tE (d_fld cls_Runner nf_Runner_entries_made (tE (dv 0) i_Var)) i_Fld) (tE (dv 3) i_Var)) i_App)) i_Drop)
      (ds_one (tS (ds_expr (tE (d_calT C_make_change hG hr (by decide) (tA (da_cons (tE (d_fld cls_Runner nf_Runner_contents_seen (tE (dv 0) i_Var)) i_Fld) (tA (da_cons (tE (dv 3) i_Var) (tA da_nil i_Nil)) i_Cons)) i_Cons)) i_CallT)) i_Drop))) i_Seq) (tSs ds_nil i_Next)) i_IfS))) i_Seq)
theorem b_Runner_execute {cRunner : Addr} {n : Nat} {r : XF} (C_Runner_execute_all : CalM P w K mg base (3 + 2 * n) cRunner "execute_all" p_Runner_execute_alls (ofF xp0 r)) (C_Runner_is_true : CalM P w K mg base 1 cRunner "is_true" p_Runner_is_trues (ofF xp0 (x_Runner_is_true cRunner))) (C_Runner_execute_change : CalM P w K mg base 2 cRunner "execute_change" p_Runner_execute_changes (ofF xp0 (x_Runner_execute_change cRunner))) (cls_Runner : Cls K cRunner) (nf_Runner_entries_made : NoAttr K cRunner "entries_made") {k_FLUSH : Tok} (c_FLUSH : mg "FLUSH" = some (.str "flush" k_FLUSH)) {k_SYNC : Tok} (c_SYNC : mg "SYNC" = some (.str "sync" k_SYNC)) {f : Addr} (cdv : Value) (A : Around) (outer : List Env) (s : Shared) (H : Hp) (Xe : XK) (hG : (A.deeper (envOfC "Runner.execute" (defScope s_Runner_execute) s.heap.objs.size f cdv)).guards = some [])
    (hr : Room (3 + 2 * n + 0) (A.deeper (envOfC "Runner.execute" (defScope s_Runner_execute) s.heap.objs.size f cdv))) : DSs (cxOf CX0 P w K mg base N_Runner_execute "Runner.execute" (defScope s_Runner_execute) f cdv A outer s H Xe).nox (defBody s_Runner_execute) (ofS xp0 (y_Runner_execute cRunner r)) := by
  have hu := hu_of hr
  have hu64 := hr.units
  exact (tSs (ds_cons (tS (ds_asg (tE (dv 1) i_Var) (tG (dg_tupS rfl (tGs (dgs_cons (tG (dg_name (i := 2) sc_Runner_execute.nd) ig_Name) (tGs (dgs_cons (tG (dg_name (i := 3) sc_Runner_execute.nd) ig_Name) (tGs dgs_nil ig_Nil)) ig_Cons)) ig_Cons)) ig_TupS)) i_Asg)
      (ds_one (tS (ds_if (tT (dt_cmp (op_eqA hu64) op2_eq (tE (dv 2) i_Var) (tE d_str i_C) (nomark _)) (i_BOp (ok_EqN false))) (ds_one (tS (ds_expr (tE (d_meth cls_Runner C_Runner_execute_all hG hr (by omega) (tE (dv 0) i_Var) (tA (da_cons (tE (d_if (tT (dt_val (tE (d_meth cls_Runner C_Runner_is_true hG hr (by omega) (tE (dv 0) i_Var) (tA (da_cons (tE (d_ix hu (tE (dv 3) i_Var) (tE d_int i_C)) i_Ix) (tA da_nil i_Nil)) i_Cons)) i_Meth)) i_B) (tE (d_ix hu (tE (dv 3) i_Var) (tE d_int i_C)) i_Ix) (tE (d_ix hu (tE (dv 3) i_Var) (tE d_int i_C)) i_Ix)) i_If) (tA da_nil i_Nil)) i_Cons)) i_Meth)) i_Drop)) (ds_one (tS (ds_if (tT (dt_cmp op_inA (op2_inN false) (tE (dv 2) i_Var) (tE (d_tup (tA (da_cons (tE (d_globS c_SYNC) i_C) (tA (da_cons (tE (d_globS c_FLUSH) i_C) (tA da_nil i_Nil)) i_Cons)) i_Cons)) i_Tup) (by rfl)) (i_BOp (ok_In false))) (ds_one (tS (ds_expr (tE (d_app (tE (d_fld cls_Runner nf_Runner_entries_made (tE (dv 0) i_Var)) i_Fld) (tE (dv 1) i_Var)) i_App)) i_Drop)) (ds_one (tS (ds_expr (tE (d_meth cls_Runner C_Runner_execute_change hG hr (by omega) (tE (dv 0) i_Var) (tA (da_cons (tE (dv 2) i_Var) (tA (da_cons (tE (dv 3) i_Var) (tA da_nil i_Nil)) i_Cons)) i_Cons)) i_Meth)) i_Drop))) i_IfS))) i_IfS))) i_Seq)
theorem b_Runner_execute_all {cRunner : Addr} {n : Nat} {r : XF} (C_Runner_execute : CalM P w K mg base (3 + 2 * n + 1) cRunner "execute" p_Runner_executes (ofF xp0 (x_Runner_execute cRunner r))) (cls_Runner : Cls K cRunner) {f : Addr} (cdv : Value) (A : Around) (outer : List Env) (s : Shared) (H : Hp) (Xe : XK) (hG : (A.deeper (envOfC "Runner.execute_all" (defScope s_Runner_execute_all) s.heap.objs.size f cdv)).guards = some [])
    (hr : Room (3 + 2 * n + 1) (A.deeper (envOfC "Runner.execute_all" (defScope s_Runner_execute_all) s.heap.objs.size f cdv))) : DSs (cxOf CX0 P w K mg base N_Runner_execute_all "Runner.execute_all" (defScope s_Runner_execute_all) f cdv A outer s H Xe).nox (defBody s_Runner_execute_all) (ofS xp0 (y_Runner_execute_all cRunner r)) := by
  have hu := hu_of hr
  have hu64 := hr.units
  exact (ds_one (tS (ds_forW [2] false PassesOwn.never rfl (tI (di_any (tE (dv 1) i_Var)) ii_A) (tG (dg_name (i := 2) sc_Runner_execute_all.nd) ig_Name) (ds_one (tS (ds_expr (tE (d_meth cls_Runner C_Runner_execute hG hr (by omega) (tE (dv 0) i_Var) (tA (da_cons (tE (dv 2) i_Var) (tA da_nil i_Nil)) i_Cons)) i_Meth)) i_Drop))) i_ForW))
theorem b_Runner_init {cRunner : Addr} (C_as_dict : Cal P w K mg base 1 "as_dict" s_as_dict p_as_dicts (ofF xp0 x_as_dict)) (C_Runner_execute_all : CalM P w K mg base 43 cRunner "execute_all" p_Runner_execute_alls (ofF xp0 (x_Runner_execute_all cRunner 20))) (cls_Runner : Cls K cRunner) (nf_Runner_contents_seen : NoAttr K cRunner "contents_seen") (nf_Runner_entries_made : NoAttr K cRunner "entries_made") {f : Addr} (cdv : Value) (A : Around) (outer : List Env) (s : Shared) (H : Hp) (Xe : XK) (hG : (A.deeper (envOfC "Runner.__init__" (defScope s_Runner_init) s.heap.objs.size f cdv)).guards = some [])
    (hr : Room 43 (A.deeper (envOfC "Runner.__init__" (defScope s_Runner_init) s.heap.objs.size f cdv))) : DSs (cxOf CX0 P w K mg base N_Runner_init "Runner.__init__" (defScope s_Runner_init) f cdv A outer s H Xe).nox (defBody s_Runner_init) (ofS xp0 (y_Runner_init cRunner)) := by
  have hu := hu_of hr
  have hu64 := hr.units
  exact (tSs (ds_cons (tS (ds_fld cls_Runner nf_Runner_contents_seen (tE (dv 0) i_Var) (tE (d_calW C_as_dict hG hr (by decide) (tA (da_cons (tE (dv 2) i_Var) (tA da_nil i_Nil)) i_Cons)) i_CallA)) i_FldS)
      (tSs (ds_cons (tS (ds_fld cls_Runner nf_Runner_entries_made (tE (dv 0) i_Var) (tE (d_lstM (tA da_nil i_Nil)) i_LstM)) i_FldS)
      (ds_one (tS (ds_expr (tE (d_meth cls_Runner C_Runner_execute_all hG hr (by decide) (tE (dv 0) i_Var) (tA (da_cons (tE (dv 1) i_Var) (tA da_nil i_Nil)) i_Cons)) i_Meth)) i_Drop))) i_Seq)) i_Seq)
theorem b_trace {cRunner : Addr} (C_Runner_init : CalI P w K mg base 44 cRunner "Runner" p_Runner_inits (ofF xp0 (x_Runner_init cRunner))) (cls_Runner : Cls K cRunner) (nf_Runner_entries_made : NoAttr K cRunner "entries_made") (z_tuple : mg "tuple" = none) {f : Addr} (cdv : Value) (A : Around) (outer : List Env) (s : Shared) (H : Hp) (Xe : XK) (hG : (A.deeper (envOfC "trace" (defScope s_trace) s.heap.objs.size f cdv)).guards = some [])
    (hr : Room 45 (A.deeper (envOfC "trace" (defScope s_trace) s.heap.objs.size f cdv))) : DSs (cxOf CX0 P w K mg base N_trace "trace" (defScope s_trace) f cdv A outer s H Xe).nox (defBody s_trace) (ofS xp0 (y_trace cRunner)) := by
  have hu := hu_of hr
  have hu64 := hr.units
  exact (ds_one (tS (ds_ret (tE (d_cty call_tuple_of opN_tuple z_tuple PyProof.Rows.boot_tuple (tA (da_cons (tE (d_fld cls_Runner nf_Runner_entries_made (tE (d_make C_Runner_init hG hr (by decide) (tA (da_cons (tE (dv 0) i_Var) (tA (da_cons (tE (dv 1) i_Var) (tA da_nil i_Nil)) i_Cons)) i_Cons)) i_Make)) i_Fld) (tA da_nil i_Nil)) i_Cons)) (i_CB ok_Tuple))) i_Ret))
theorem b_law_deck (z_list : mg "list" = none) {f : Addr} (cdv : Value) (A : Around) (outer : List Env) (s : Shared) (H : Hp) (Xe : XK) (hG : (A.deeper (envOfC "_law_deck" (defScope s_law_deck) s.heap.objs.size f cdv)).guards = some [])
    (hr : Room 0 (A.deeper (envOfC "_law_deck" (defScope s_law_deck) s.heap.objs.size f cdv))) : DSs (cxOf CX0 P w K mg base N_law_deck "_law_deck" (defScope s_law_deck) f cdv A outer s H Xe).nox (defBody s_law_deck) (ofS xp0 (y_law_deck)) := by
  have hu := hu_of hr
  have hu64 := hr.units
  exact (tSs (ds_cons (tS (ds_par (i := 1) (j := 2) rfl sc_law_deck.nd (tA (da_cons (tE (d_cty call_list_of opN_list z_list boot_list (tA (da_cons (tE (d_sl (tE (dv 0) i_Var) (tO do_none io_NoPart) (tO (do_some (tE d_int i_C)) io_Part)) i_Sl) (tA da_nil i_Nil)) i_Cons)) (i_CB ok_List)) (tA (da_cons (tE d_int i_C) (tA da_nil i_Nil)) i_Cons)) i_Cons)) i_Par)
      (tSs (ds_cons (tS (ds_forW [3] false PassesOwn.never rfl (tI (di_any (tE (dv 1) i_Var)) ii_A) (tG (dg_name (i := 3) sc_law_deck.nd) ig_Name) (ds_one (tS (ds_set (i := 2) sc_law_deck.nd (tE (d_op op_mod op2_mod (tE (d_op op_addA op2_add (tE (d_op op_addA op2_add (tE (d_op op_mulA op2_mul (tE (dv 2) i_Var) (tE d_int i_C)) (i_Op ok_Mul)) (tE (d_op op_mod op2_mod (tE (dv 3) i_Var) (tE d_int i_C)) (i_Op ok_Mod))) (i_Op ok_Add)) (tE d_int i_C)) (i_Op ok_Add)) (tE d_int i_C)) (i_Op ok_Mod))) i_Asg1))) i_ForW)
      (ds_one (tS (ds_ret (tE (d_lstM (tA (da_cons (tE (d_revM (tE (dv 1) i_Var)) i_RevM) (tA (da_cons (tE (dv 2) i_Var) (tA (da_cons (tE d_int i_C) (tA da_nil i_Nil)) i_Cons)) i_Cons)) i_Cons)) i_LstM)) i_Ret))) i_Seq)) i_Seq)
theorem b_law_draw {f : Addr} (cdv : Value) (A : Around) (outer : List Env) (s : Shared) (H : Hp) (Xe : XK) (hG : (A.deeper (envOfC "_law_draw" (defScope s_law_draw) s.heap.objs.size f cdv)).guards = some [])
    (hr : Room 0 (A.deeper (envOfC "_law_draw" (defScope s_law_draw) s.heap.objs.size f cdv))) : DSs (cxOf CX0 P w K mg base N_law_draw "_law_draw" (defScope s_law_draw) f cdv A outer s H Xe).nox (defBody s_law_draw) (ofS xp0 (y_law_draw)) := by
  have hu := hu_of hr
  have hu64 := hr.units
  exact (tSs (ds_cons (tS (ds_asg (tE (d_op op_addA op2_add (tE (d_ix hu (tE (dv 0) i_Var) (tE d_int i_C)) i_Ix) (tE d_int i_C)) (i_Op ok_Add)) (tG (dg_sub hu (tE (dv 0) i_Var) (tE d_int i_C)) ig_Sub)) i_Asg)
      (tSs (ds_cons (tS (ds_set (i := 2) sc_law_draw.nd (tE (d_ix hu (tE (dv 0) i_Var) (tE d_int i_C)) i_Ix)) i_Asg1)
      (tSs (ds_cons (tS (ds_if (tT (dt_cmp (op_neA hu64) op2_ne (tE (d_ix hu (tE (dv 0) i_Var) (tE d_int i_C)) i_Ix) (tE (d_lst (tA da_nil i_Nil)) i_Lst) (nomark _)) (i_BOp (ok_EqN true))) (tSs (ds_cons (tS (ds_set (i := 2) sc_law_draw.nd (tE (d_pop (tE (d_ix hu (tE (dv 0) i_Var) (tE d_int i_C)) i_Ix)) i_Pop)) i_Asg1)
      (tSs (ds_cons (tS (ds_if (tT (dt_cmp op_geA op2_ge (tE (dv 2) i_Var) (tE (d_op op_pow op2_pow (tE d_int i_C) (tE d_int i_C)) (i_Op ok_Pow)) (nomark _)) (i_BOp ok_Ge)) (tSs (ds_cons (tS (ds_expr (tE (d_app (tE (d_ix hu (tE (dv 0) i_Var) (tE d_int i_C)) i_Ix) (tE (d_op op_fdiv op2_div (tE (dv 2) i_Var) (tE (dv 1) i_Var)) (i_Op ok_Div))) i_App)) i_Drop)
      (ds_one (tS (ds_ret (tE (d_op op_mod op2_mod (tE (dv 2) i_Var) (tE (dv 1) i_Var)) (i_Op ok_Mod))) i_Ret))) i_Seq) (tSs ds_nil i_Next)) i_IfS)
      (ds_one (tS (ds_set (i := 2) sc_law_draw.nd (tE (d_op op_addA op2_add (tE (dv 2) i_Var) (tE (d_ix hu (tE (dv 0) i_Var) (tE d_int i_C)) i_Ix)) (i_Op ok_Add))) i_Asg1))) i_Seq)) i_Seq) (tSs ds_nil i_Next)) i_IfS)
      (tSs (ds_cons (tS (ds_set (i := 3) sc_law_draw.nd (tE (d_op op_mod op2_mod (tE (d_op op_mulA op2_mul (tE (d_op op_addA op2_add (tE (d_op op_addA op2_add (tE (d_op op_mod op2_mod (tE (dv 2) i_Var) (tE d_int i_C)) (i_Op ok_Mod)) (tE (d_op op_mulA op2_mul (tE (d_op op_mulA op2_mul (tE d_int i_C) (tE (d_ix hu (tE (dv 0) i_Var) (tE d_int i_C)) i_Ix)) (i_Op ok_Mul)) (tE (d_ix hu (tE (dv 0) i_Var) (tE d_int i_C)) i_Ix)) (i_Op ok_Mul))) (i_Op ok_Add)) (tE d_int i_C)) (i_Op ok_Add)) (tE d_int i_C)) (i_Op ok_Mul)) (tE d_int i_C)) (i_Op ok_Mod))) i_Asg1)
      (tSs (ds_cons (tS (ds_set (i := 3) sc_law_draw.nd (tE (d_op op_mod op2_mod (tE (d_op op_addA op2_add (tE (d_op op_addA op2_add (tE (d_op op_mulA op2_mul (tE (dv 3) i_Var) (tE (dv 3) i_Var)) (i_Op ok_Mul)) (tE (d_op op_mulA op2_mul (tE d_int i_C) (tE (d_ix hu (tE (dv 0) i_Var) (tE d_int i_C)) i_Ix)) (i_Op ok_Mul))) (i_Op ok_Add)) (tE d_int i_C)) (i_Op ok_Add)) (tE d_int i_C)) (i_Op ok_Mod))) i_Asg1)
      (ds_one (tS (ds_ret (tE (d_op op_mod op2_mod (tE (d_op op_fdiv op2_div (tE (d_op op_mod op2_mod (tE (d_op op_mulA op2_mul (tE (dv 3) i_Var) (tE (d_op op_addA op2_add (tE (d_op op_fdiv op2_div (tE (dv 3) i_Var) (tE d_int i_C)) (i_Op ok_Div)) (tE d_int i_C)) (i_Op ok_Add))) (i_Op ok_Mul)) (tE d_int i_C)) (i_Op ok_Mod)) (tE d_int i_C)) (i_Op ok_Div)) (tE (dv 1) i_Var)) (i_Op ok_Mod))) i_Ret))) i_Seq)) i_Seq)) i_Seq)) i_Seq)) i_Seq)
theorem b_law_pick (C_law_draw : Cal P w K mg base 1 "_law_draw" s_law_draw p_law_draws (ofF xp0 x_law_draw)) (z_len : mg "len" = none) {f : Addr} (cdv : Value) (A : Around) (outer : List Env) (s : Shared) (H : Hp) (Xe : XK) (hG : (A.deeper (envOfC "_law_pick" (defScope s_law_pick) s.heap.objs.size f cdv)).guards = some [])
    (hr : Room 1 (A.deeper (envOfC "_law_pick" (defScope s_law_pick) s.heap.objs.size f cdv))) : DSs (cxOf CX0 P w K mg base N_law_pick "_law_pick" (defScope s_law_pick) f cdv A outer s H Xe).nox (defBody s_law_pick) (ofS xp0 (y_law_pick)) := by
  have hu := hu_of hr
  have hu64 := hr.units
  exact (ds_one (tS (ds_ret (tE (d_ix hu (tE (dv 1) i_Var) (tE (d_cal 2 C_law_draw hG hr (by decide) (tA (da_cons (tE (dv 0) i_Var) (tA (da_cons (tE (d_cb call_lenA opN_len z_len PySem.boot_len (tA (da_cons (tE (dv 1) i_Var) (tA da_nil i_Nil)) i_Cons)) (i_CB ok_Len)) (tA da_nil i_Nil)) i_Cons)) i_Cons)) i_CallN)) i_Ix)) i_Ret))
theorem b_law_kit (C_law_draw : Cal P w K mg base 1 "_law_draw" s_law_draw p_law_draws (ofF xp0 x_law_draw)) (C_law_pick : Cal P w K mg base 2 "_law_pick" s_law_pick p_law_picks (ofF xp0 x_law_pick)) (z_range : mg "range" = none) {f : Addr} (cdv : Value) (A : Around) (outer : List Env) (s : Shared) (H : Hp) (Xe : XK) (hG : (A.deeper (envOfC "_law_kit" (defScope s_law_kit) s.heap.objs.size f cdv)).guards = some [])
    (hr : Room 2 (A.deeper (envOfC "_law_kit" (defScope s_law_kit) s.heap.objs.size f cdv))) : DSs (cxOf CX0 P w K mg base N_law_kit "_law_kit" (defScope s_law_kit) f cdv A outer s H Xe).nox (defBody s_law_kit) (ofS xp0 (y_law_kit)) := by
  have hu := hu_of hr
  have hu64 := hr.units
  exact (tSs (ds_cons (tS (ds_par (i := 2) (j := 3) rfl sc_law_kit.nd (tA (da_cons (tE (d_cal 2 C_law_draw hG hr (by decide) (tA (da_cons (tE (dv 0) i_Var) (tA (da_cons (tE d_int i_C) (tA da_nil i_Nil)) i_Cons)) i_Cons)) i_CallN) (tA (da_cons (tE (d_cal 2 C_law_draw hG hr (by decide) (tA (da_cons (tE (dv 0) i_Var) (tA (da_cons (tE d_int i_C) (tA da_nil i_Nil)) i_Cons)) i_Cons)) i_CallN) (tA da_nil i_Nil)) i_Cons)) i_Cons)) i_Par)
      (tSs (ds_cons (tS (ds_set (i := 4) sc_law_kit.nd (tE (d_m1 F.slot_str_split F.type_str_split mt_split opM_split (tE d_str i_C) (tE d_str i_C)) (i_M1 ok_Split))) i_Asg1)
      (tSs (ds_cons (tS (ds_set (i := 5) sc_law_kit.nd (tE (d_lstM (tA da_nil i_Nil)) i_LstM)) i_Asg1)
      (tSs (ds_cons (tS (ds_forW [6, 7] false PassesOwn.never rfl (tI (di_range1 z_range (tA (da_cons (tE (dv 1) i_Var) (tA da_nil i_Nil)) i_Cons)) ii_R1) (tG (dg_name (i := 6) sc_law_kit.nd) ig_Name) (tSs (ds_cons (tS (ds_set (i := 7) sc_law_kit.nd (tE (d_ix hu (tE d_str i_C) (tE (d_op op_mod op2_mod (tE (d_op op_addA op2_add (tE (dv 3) i_Var) (tE (d_op op_mulA op2_mul (tE d_int i_C) (tE (dv 6) i_Var)) (i_Op ok_Mul))) (i_Op ok_Add)) (tE d_int i_C)) (i_Op ok_Mod))) i_Ix)) i_Asg1)
      (ds_one (tS (ds_expr (tE (d_app (tE (dv 5) i_Var) (tE (d_ix hu (tE (d_lst (tA (da_cons (tE (dv 7) i_Var) (tA (da_cons (tE (d_ix hu (tE (dv 4) i_Var) (tE (d_op op_mod op2_mod (tE (d_op op_addA op2_add (tE (dv 3) i_Var) (tE (d_op op_mulA op2_mul (tE d_int i_C) (tE (dv 6) i_Var)) (i_Op ok_Mul))) (i_Op ok_Add)) (tE d_int i_C)) (i_Op ok_Mod))) i_Ix) (tA (da_cons (tE (d_op op_addA op2_add (tE d_str i_C) (tE (d_sl (tE d_str i_C) (tO do_none io_NoPart) (tO (do_some (tE (dv 6) i_Var)) io_Part)) i_Sl)) (i_Op ok_Add)) (tA da_nil i_Nil)) i_Cons)) i_Cons)) i_Cons)) i_Lst) (tE (dv 2) i_Var)) i_Ix)) i_App)) i_Drop))) i_Seq)) i_ForW)
      (tSs (dss_frzV 5 (tSs (ds_cons (tS (ds_set (i := 8) sc_law_kit.nd (tE (d_cal 2 C_law_pick hG hr (by decide) (tA (da_cons (tE (dv 0) i_Var) (tA (da_cons (tE (d_lst (tA (da_cons (tE (d_lst (tA (da_cons (tE d_str i_C) (tA (da_cons (tE d_str i_C) (tA da_nil i_Nil)) i_Cons)) i_Cons)) i_Lst) (tA (da_cons (tE (d_lst (tA (da_cons (tE d_str i_C) (tA (da_cons (tE d_str i_C) (tA da_nil i_Nil)) i_Cons)) i_Cons)) i_Lst) (tA (da_cons (tE (d_lst (tA (da_cons (tE d_str i_C) (tA (da_cons (tE d_str i_C) (tA da_nil i_Nil)) i_Cons)) i_Cons)) i_Lst) (tA (da_cons (tE (d_lst (tA (da_cons (tE (d_m0 F.slot_str_upper F.type_str_upper mt_upper opM_upper (tE (d_ix hu (tE (dv 5) i_Var) (tE d_int i_C)) i_Ix)) (i_M0 ok_Upper)) (tA (da_cons (tE d_str i_C) (tA da_nil i_Nil)) i_Cons)) i_Cons)) i_Lst) (tA da_nil i_Nil)) i_Cons)) i_Cons)) i_Cons)) i_Cons)) i_Lst) (tA da_nil i_Nil)) i_Cons)) i_Cons)) i_CallN)) i_Asg1)
      (ds_one (tS (ds_ret (tE (d_dispM (tPs (dp_cons (tE d_str i_C) (tE (dv 5) i_Var) (tPs (dp_cons (tE d_str i_C) (tE (dv 8) i_Var) (tPs dp_nil ip_Nil)) ip_Cons)) ip_Cons)) i_DispM)) i_Ret))) i_Seq)) i_FrzV)) i_Seq)) i_Seq)) i_Seq)) i_Seq)
theorem b_law_test (C_law_pick : Cal P w K mg base 2 "_law_pick" s_law_pick p_law_picks (ofF xp0 x_law_pick)) (C_law_draw : Cal P w K mg base 1 "_law_draw" s_law_draw p_law_draws (ofF xp0 x_law_draw)) (z_len : mg "len" = none) {f : Addr} (cdv : Value) (A : Around) (outer : List Env) (s : Shared) (H : Hp) (Xe : XK) (hG : (A.deeper (envOfC "_law_test" (defScope s_law_test) s.heap.objs.size f cdv)).guards = some [])
    (hr : Room 2 (A.deeper (envOfC "_law_test" (defScope s_law_test) s.heap.objs.size f cdv))) : DSs (cxOf CX0 P w K mg base N_law_test "_law_test" (defScope s_law_test) f cdv A outer s H Xe).nox (defBody s_law_test) (ofS xp0 (y_law_test)) := by
  have hu := hu_of hr
  have hu64 := hr.units
  exact (tSs (ds_cons (tS (ds_asg (tE (d_tup (tA (da_cons (tE (d_cal 2 C_law_pick hG hr (by decide) (tA (da_cons (tE (dv 0) i_Var) (tA (da_cons (tE (d_ix hu (tE (dv 1) i_Var) (tE d_str i_C)) i_Ix) (tA da_nil i_Nil)) i_Cons)) i_Cons)) i_CallN) (tA (da_cons (tE (d_cal 2 C_law_draw hG hr (by decide) (tA (da_cons (tE (dv 0) i_Var) (tA (da_cons (tE (d_op op_sub op2_sub (tE (d_cb call_lenA opN_len z_len PySem.boot_len (tA (da_cons (tE (d_ix hu (tE (dv 1) i_Var) (tE d_str i_C)) i_Ix) (tA da_nil i_Nil)) i_Cons)) (i_CB ok_Len)) (tE d_int i_C)) (i_Op ok_Sub)) (tA da_nil i_Nil)) i_Cons)) i_Cons)) i_CallN) (tA da_nil i_Nil)) i_Cons)) i_Cons)) i_Tup) (tG (dg_tup rfl (tGs (dgs_cons (tG (dg_name (i := 2) sc_law_test.nd) ig_Name) (tGs (dgs_cons (tG (dg_name (i := 3) sc_law_test.nd) ig_Name) (tGs dgs_nil ig_Nil)) ig_Cons)) ig_Cons)) ig_Tup)) i_Asg)
      (tSs (ds_cons (tS (ds_set (i := 4) sc_law_test.nd (tE (d_ix hu (tE (d_lcV [("_law_far", 5)] [5] rfl rfl sc_law_test.nd (tI (di_any (tE (d_ix hu (tE (dv 1) i_Var) (tE d_str i_C)) i_Ix)) ii_A) (blkOk_by (N := N_law_test) (sc := defScope s_law_test) (by decide +kernel)) (tCG (cg_name (i := 5) sc_law_test.nd) ig_Name) (ct_one fun _ _ _ _ _ => (tT (dt_cmp (op_neA hu64) op2_ne (tE (dv 5) i_Var) (tE (dv 2) i_Var) (nomark _)) (i_BOp (ok_EqN true)))) (ce_of fun _ _ _ _ _ => (tE (dv 5) i_Var))) i_Lc) (tE (dv 3) i_Var)) i_Ix)) i_Asg1)
      (tSs (ds_cons (tS (ds_set (i := 6) sc_law_test.nd (tE (d_cal 2 C_law_pick hG hr (by decide) (tA (da_cons (tE (dv 0) i_Var) (tA (da_cons (tE (d_ix hu (tE (dv 1) i_Var) (tE d_str i_C)) i_Ix) (tA da_nil i_Nil)) i_Cons)) i_Cons)) i_CallN)) i_Asg1)
      (ds_one (tS (ds_ret (tE (d_ix hu (tE (d_lst (tA (da_cons (tE (d_tup (tA (da_cons (tE d_str i_C) (tA (da_cons (tE (dv 2) i_Var) (tA da_nil i_Nil)) i_Cons)) i_Cons)) i_Tup) (tA (da_cons (tE (d_tup (tA (da_cons (tE d_str i_C) (tA (da_cons (tE (dv 2) i_Var) (tA (da_cons (tE (dv 4) i_Var) (tA da_nil i_Nil)) i_Cons)) i_Cons)) i_Cons)) i_Tup) (tA (da_cons (tE (d_tup (tA (da_cons (tE d_str i_C) (tA (da_cons (tE (dv 2) i_Var) (tA (da_cons (tE (dv 6) i_Var) (tA da_nil i_Nil)) i_Cons)) i_Cons)) i_Cons)) i_Tup) (tA da_nil i_Nil)) i_Cons)) i_Cons)) i_Cons)) i_Lst) (tE (d_cal 2 C_law_draw hG hr (by decide) (tA (da_cons (tE (dv 0) i_Var) (tA (da_cons (tE d_int i_C) (tA da_nil i_Nil)) i_Cons)) i_Cons)) i_CallN)) i_Ix)) i_Ret))) i_Seq)) i_Seq)) i_Seq)
theorem b_law_operation (C_law_pick : Cal P w K mg base 2 "_law_pick" s_law_pick p_law_picks (ofF xp0 x_law_pick)) (C_law_draw : Cal P w K mg base 1 "_law_draw" s_law_draw p_law_draws (ofF xp0 x_law_draw)) (z_len : mg "len" = none) {f : Addr} (cdv : Value) (A : Around) (outer : List Env) (s : Shared) (H : Hp) (Xe : XK) (hG : (A.deeper (envOfC "_law_operation" (defScope s_law_operation) s.heap.objs.size f cdv)).guards = some [])
    (hr : Room 2 (A.deeper (envOfC "_law_operation" (defScope s_law_operation) s.heap.objs.size f cdv))) : DSs (cxOf CX0 P w K mg base N_law_operation "_law_operation" (defScope s_law_operation) f cdv A outer s H Xe).nox (defBody s_law_operation) (ofS xp0 (y_law_operation)) := by
  have hu := hu_of hr
  have hu64 := hr.units
  exact (tSs (ds_cons (tS (ds_set (i := 2) sc_law_operation.nd (tE (d_cal 2 C_law_pick hG hr (by decide) (tA (da_cons (tE (dv 0) i_Var) (tA (da_cons (tE (d_ix hu (tE (dv 1) i_Var) (tE d_str i_C)) i_Ix) (tA da_nil i_Nil)) i_Cons)) i_Cons)) i_CallN)) i_Asg1)
      (tSs (ds_cons (tS (ds_asg (tE (d_tup (tA (da_cons (tE (d_cal 2 C_law_pick hG hr (by decide) (tA (da_cons (tE (dv 0) i_Var) (tA (da_cons (tE (d_ix hu (tE (dv 1) i_Var) (tE d_str i_C)) i_Ix) (tA da_nil i_Nil)) i_Cons)) i_Cons)) i_CallN) (tA (da_cons (tE (d_cal 2 C_law_draw hG hr (by decide) (tA (da_cons (tE (dv 0) i_Var) (tA (da_cons (tE (d_op op_sub op2_sub (tE (d_cb call_lenA opN_len z_len PySem.boot_len (tA (da_cons (tE (d_ix hu (tE (dv 1) i_Var) (tE d_str i_C)) i_Ix) (tA da_nil i_Nil)) i_Cons)) (i_CB ok_Len)) (tE d_int i_C)) (i_Op ok_Sub)) (tA da_nil i_Nil)) i_Cons)) i_Cons)) i_CallN) (tA da_nil i_Nil)) i_Cons)) i_Cons)) i_Tup) (tG (dg_tup rfl (tGs (dgs_cons (tG (dg_name (i := 3) sc_law_operation.nd) ig_Name) (tGs (dgs_cons (tG (dg_name (i := 4) sc_law_operation.nd) ig_Name) (tGs dgs_nil ig_Nil)) ig_Cons)) ig_Cons)) ig_Tup)) i_Asg)
      (tSs (ds_cons (tS (ds_set (i := 5) sc_law_operation.nd (tE (d_ix hu (tE (d_lcV [("_law_far", 6)] [6] rfl rfl sc_law_operation.nd (tI (di_any (tE (d_ix hu (tE (dv 1) i_Var) (tE d_str i_C)) i_Ix)) ii_A) (blkOk_by (N := N_law_operation) (sc := defScope s_law_operation) (by decide +kernel)) (tCG (cg_name (i := 6) sc_law_operation.nd) ig_Name) (ct_one fun _ _ _ _ _ => (tT (dt_cmp (op_neA hu64) op2_ne (tE (dv 6) i_Var) (tE (dv 3) i_Var) (nomark _)) (i_BOp (ok_EqN true)))) (ce_of fun _ _ _ _ _ => (tE (dv 6) i_Var))) i_Lc) (tE (dv 4) i_Var)) i_Ix)) i_Asg1)
      (tSs (ds_cons (tS (ds_if (tT (dt_cmp (op_eqA hu64) op2_eq (tE (dv 2) i_Var) (tE d_str i_C) (nomark _)) (i_BOp (ok_EqN false))) (ds_one (tS (ds_ret (tE (d_tup (tA (da_cons (tE (dv 2) i_Var) (tA da_nil i_Nil)) i_Cons)) i_Tup)) i_Ret)) (tSs ds_nil i_Next)) i_IfS)
      (tSs (ds_cons (tS (ds_if (DW.t (tW (dw_or (tT (dt_cmp (op_eqA hu64) op2_eq (tE (dv 2) i_Var) (tE d_str i_C) (nomark _)) (i_BOp (ok_EqN false))) (dw_or1 (tT (dt_cmp op_ltA op2_lt (tE (d_ix hu (tE (dv 1) i_Var) (tE d_str i_C)) i_Ix) (tE d_int i_C) (nomark _)) (i_BOp ok_Lt)))) i_Or)) (ds_one (tS (ds_ret (tE (d_tup (tA (da_cons (tE d_str i_C) (tA (da_cons (tE (dv 3) i_Var) (tA da_nil i_Nil)) i_Cons)) i_Cons)) i_Tup)) i_Ret)) (tSs ds_nil i_Next)) i_IfS)
      (tSs (ds_cons (tS (ds_asg (tE (d_op op_sub op2_sub (tE (d_ix hu (tE (dv 1) i_Var) (tE d_str i_C)) i_Ix) (tE d_int i_C)) (i_Op ok_Sub)) (tG (dg_sub hu (tE (dv 1) i_Var) (tE d_str i_C)) ig_Sub)) i_Asg)
      (tSs (ds_cons (tS (ds_if (tT (dt_cmp (op_eqA hu64) op2_eq (tE (dv 2) i_Var) (tE d_str i_C) (nomark _)) (i_BOp (ok_EqN false))) (ds_one (tS (ds_ret (tE (d_tup (tA (da_cons (tE (dv 2) i_Var) (tA (da_cons (tE (dv 3) i_Var) (tA (da_cons (tE (d_cal 2 C_law_pick hG hr (by decide) (tA (da_cons (tE (dv 0) i_Var) (tA (da_cons (tE (d_ix hu (tE (dv 1) i_Var) (tE d_str i_C)) i_Ix) (tA da_nil i_Nil)) i_Cons)) i_Cons)) i_CallN) (tA da_nil i_Nil)) i_Cons)) i_Cons)) i_Cons)) i_Tup)) i_Ret)) (tSs ds_nil i_Next)) i_IfS)
      (ds_one (tS (ds_ret (tE (d_if (tT (dt_cmp (op_eqA hu64) op2_eq (tE (dv 2) i_Var) (tE d_str i_C) (nomark _)) (i_BOp (ok_EqN false))) (tE (d_tup (tA (da_cons (tE (dv 2) i_Var) (tA (da_cons (tE (dv 3) i_Var) (tA da_nil i_Nil)) i_Cons)) i_Cons)) i_Tup) (tE (d_tup (tA (da_cons (tE (dv 2) i_Var) (tA (da_cons (tE (dv 3) i_Var) (tA (da_cons (tE (dv 5) i_Var) (tA da_nil i_Nil)) i_Cons)) i_Cons)) i_Cons)) i_Tup)) i_If)) i_Ret))) i_Seq)) i_Seq)) i_Seq)) i_Seq)) i_Seq)) i_Seq)) i_Seq)
theorem b_law_script {n : Nat} {r : XF} (C_law_draw : Cal P w K mg base 1 "_law_draw" s_law_draw p_law_draws (ofF xp0 x_law_draw)) (C_law_script : Cal P w K mg base (4 + n) "_law_script" s_law_script p_law_scripts (ofF xp0 r)) (C_law_test : Cal P w K mg base 3 "_law_test" s_law_test p_law_tests (ofF xp0 x_law_test)) (C_law_operation : Cal P w K mg base 3 "_law_operation" s_law_operation p_law_operations (ofF xp0 x_law_operation)) (z_range : mg "range" = none) (z_tuple : mg "tuple" = none) {f : Addr} (cdv : Value) (A : Around) (outer : List Env) (s : Shared) (H : Hp) (Xe : XK) (hG : (A.deeper (envOfC "_law_script" (defScope s_law_script) s.heap.objs.size f cdv)).guards = some [])
    (hr : Room (4 + n) (A.deeper (envOfC "_law_script" (defScope s_law_script) s.heap.objs.size f cdv))) : DSs (cxOf CX0 P w K mg base N_law_script "_law_script" (defScope s_law_script) f cdv A outer s H Xe).nox (defBody s_law_script) (ofS xp0 (y_law_script r)) := by
  have hu := hu_of hr
  have hu64 := hr.units
  exact (tSs (ds_cons (tS (ds_set (i := 3) sc_law_script.nd (tE (d_lstM (tA da_nil i_Nil)) i_LstM)) i_Asg1)
      (tSs (ds_cons (tS (ds_forW [4, 5, 6] false PassesOwn.never rfl (tI (di_range1 z_range (tA (da_cons (tE (d_cal 2 C_law_draw hG hr (by omega) (tA (da_cons (tE (dv 0) i_Var) (tA (da_cons (tE d_int i_C) (tA da_nil i_Nil)) i_Cons)) i_Cons)) i_CallN) (tA da_nil i_Nil)) i_Cons)) ii_R1) (tG (dg_name (i := 4) sc_law_script.nd) ig_Name) (tSs (ds_cons (tS (ds_if (tT (dt_cmp op_ltA op2_lt (tE (d_ix hu (tE (dv 1) i_Var) (tE d_str i_C)) i_Ix) (tE d_int i_C) (nomark _)) (i_BOp ok_Lt)) (ds_one (tS (ds_ret (tE (d_cty call_tuple_of opN_tuple z_tuple PyProof.Rows.boot_tuple (tA (da_cons (tE (dv 3) i_Var) (tA da_nil i_Nil)) i_Cons)) (i_CB ok_Tuple))) i_Ret)) (tSs ds_nil i_Next)) i_IfS)
      (tSs (ds_cons (tS (ds_asg (tE (d_op op_sub op2_sub (tE (d_ix hu (tE (dv 1) i_Var) (tE d_str i_C)) i_Ix) (tE d_int i_C)) (i_Op ok_Sub)) (tG (dg_sub hu (tE (dv 1) i_Var) (tE d_str i_C)) ig_Sub)) i_Asg)
      (ds_one (tS (ds_if (DW.t (tW (dw_and (tT (dt_cmp op_gtA op2_gt (tE (dv 2) i_Var) (tE d_int i_C) (nomark _)) (i_BOp ok_Gt)) (dw_and1 (tT (dt_cmp (op_eqA hu64) op2_eq (tE (d_cal 2 C_law_draw hG hr (by omega) (tA (da_cons (tE (dv 0) i_Var) (tA (da_cons (tE d_int i_C) (tA da_nil i_Nil)) i_Cons)) i_Cons)) i_CallN) (tE d_int i_C) (nomark _)) (i_BOp (ok_EqN false))))) i_And)) (tSs (ds_cons (tS (ds_setLc [("_law_turn", 6)] (i := 5) rfl sc_law_script.nd (tI (di_range1 z_range (tA (da_cons (tE d_int i_C) (tA da_nil i_Nil)) i_Cons)) ii_R1) (blkOk_by (N := N_law_script) (sc := defScope s_law_script) (by decide +kernel)) (tCG (cg_name (i := 6) sc_law_script.nd) ig_Name) (tCT ct_nil i_Yes) (ce_of fun _ _ _ _ _ => (tE (d_calT C_law_script hG hr (by omega) (tA (da_cons (tE (dv 0) i_Var) (tA (da_cons (tE (dv 1) i_Var) (tA (da_cons (tE (d_op op_sub op2_sub (tE (dv 2) i_Var) (tE d_int i_C)) (i_Op ok_Sub)) (tA da_nil i_Nil)) i_Cons)) i_Cons)) i_Cons)) i_CallT)) (sw_true rfl rfl rfl (by decide +kernel))) i_AsgLc)
      (ds_one (tS (ds_expr (tE (d_app (tE (dv 3) i_Var) (tE (d_tup (tA (da_cons (tE d_str i_C) (tA (da_cons (tE (d_calT C_law_test hG hr (by omega) (tA (da_cons (tE (dv 0) i_Var) (tA (da_cons (tE (dv 1) i_Var) (tA da_nil i_Nil)) i_Cons)) i_Cons)) i_CallT) (tA (da_cons (tE (d_ix hu (tE (dv 5) i_Var) (tE d_int i_C)) i_Ix) (tA (da_cons (tE (d_ix hu (tE (dv 5) i_Var) (tE d_int i_C)) i_Ix) (tA da_nil i_Nil)) i_Cons)) i_Cons)) i_Cons)) i_Cons)) i_Tup)) i_App)) i_Drop))) i_Seq) (ds_one (tS (ds_expr (tE (d_app (tE (dv 3) i_Var) (tE (d_calT C_law_operation hG hr (by omega) (tA (da_cons (tE (dv 0) i_Var) (tA (da_cons (tE (dv 1) i_Var) (tA da_nil i_Nil)) i_Cons)) i_Cons)) i_CallT)) i_App)) i_Drop))) i_IfS))) i_Seq)) i_Seq)) i_ForW)
      (ds_one (tS (ds_ret (tE (d_cty call_tuple_of opN_tuple z_tuple PyProof.Rows.boot_tuple (tA (da_cons (tE (dv 3) i_Var) (tA da_nil i_Nil)) i_Cons)) (i_CB ok_Tuple))) i_Ret))) i_Seq)) i_Seq)
theorem b_law_disk (C_law_pick : Cal P w K mg base 2 "_law_pick" s_law_pick p_law_picks (ofF xp0 x_law_pick)) (C_law_draw : Cal P w K mg base 1 "_law_draw" s_law_draw p_law_draws (ofF xp0 x_law_draw)) (z_int : mg "int" = none) (z_set : mg "set" = none) (z_sorted : mg "sorted" = none) (z_tuple : mg "tuple" = none) {f : Addr} (cdv : Value) (A : Around) (outer : List Env) (s : Shared) (H : Hp) (Xe : XK) (hG : (A.deeper (envOfC "_law_disk" (defScope s_law_disk) s.heap.objs.size f cdv)).guards = some [])
    (hr : Room 2 (A.deeper (envOfC "_law_disk" (defScope s_law_disk) s.heap.objs.size f cdv))) : DSs (cxOf CX0 P w K mg base N_law_disk "_law_disk" (defScope s_law_disk) f cdv A outer s H Xe).nox (defBody s_law_disk) (ofS xp0 (y_law_disk)) := by
  have hu := hu_of hr
  have hu64 := hr.units
  exact (tSs (ds_cons (tS (ds_set (i := 3) sc_law_disk.nd (tE (d_lstM (tA da_nil i_Nil)) i_LstM)) i_Asg1)
      (tSs (ds_cons (tS (ds_forW [4, 5] false PassesOwn.never rfl (tI (di_any (tE (d_sortSet rfl z_sorted z_set (tA (da_cons (tE (d_op op_addA op2_add (tE (d_ix hu (tE (dv 1) i_Var) (tE d_str i_C)) i_Ix) (tE (dv 2) i_Var)) (i_Op ok_Add)) (tA da_nil i_Nil)) i_Cons)) (i_CB ok_SortSet))) ii_A) (tG (dg_name (i := 4) sc_law_disk.nd) ig_Name) (tSs (ds_cons (tS (ds_set (i := 5) sc_law_disk.nd (tE (d_cal 2 C_law_pick hG hr (by decide) (tA (da_cons (tE (dv 0) i_Var) (tA (da_cons (tE (d_op op_addA op2_add (tE (d_ix hu (tE (dv 1) i_Var) (tE d_str i_C)) i_Ix) (tE (d_lst (tA (da_cons (tE d_int i_C) (tA (da_cons (tE d_int i_C) (tA (da_cons (tE d_int i_C) (tA (da_cons (tE (d_op op_pow op2_pow (tE d_int i_C) (tE d_int i_C)) (i_Op ok_Pow)) (tA (da_cons (tE (d_cal 2 C_law_draw hG hr (by decide) (tA (da_cons (tE (dv 0) i_Var) (tA (da_cons (tE d_int i_C) (tA da_nil i_Nil)) i_Cons)) i_Cons)) i_CallN) (tA (da_cons (tE d_str i_C) (tA (da_cons (tE d_non i_C) (tA (da_cons (tE d_non i_C) (tA (da_cons (tE d_non i_C) (tA da_nil i_Nil)) i_Cons)) i_Cons)) i_Cons)) i_Cons)) i_Cons)) i_Cons)) i_Cons)) i_Cons)) i_Cons)) i_Lst)) (i_Op ok_Add)) (tA da_nil i_Nil)) i_Cons)) i_Cons)) i_CallN)) i_Asg1)
      (ds_one (tS (ds_expr (tE (d_ext (tE (dv 3) i_Var) (tE (d_op op_mulA op2_mul (tE (d_lst (tA (da_cons (tE (d_tup (tA (da_cons (tE (dv 4) i_Var) (tA (da_cons (tE (dv 5) i_Var) (tA da_nil i_Nil)) i_Cons)) i_Cons)) i_Tup) (tA da_nil i_Nil)) i_Cons)) i_Lst) (tE (d_cty call_int1 opN_int z_int (by decide +kernel) (tA (da_cons (tE (d_cmp op_notN op2_notN (tE (dv 5) i_Var) (tE d_non i_C) (nomark _)) (i_Op (ok_IsN true))) (tA da_nil i_Nil)) i_Cons)) (i_CB ok_Int))) (i_Op ok_Mul))) i_Ext)) i_Drop))) i_Seq)) i_ForW)
      (ds_one (tS (ds_ret (tE (d_cty call_tuple_of opN_tuple z_tuple PyProof.Rows.boot_tuple (tA (da_cons (tE (dv 3) i_Var) (tA da_nil i_Nil)) i_Cons)) (i_CB ok_Tuple))) i_Ret))) i_Seq)) i_Seq)
theorem b_law_make {f : Addr} (cdv : Value) (A : Around) (outer : List Env) (s : Shared) (H : Hp) (Xe : XK) (hG : (A.deeper (envOfC "_law_make" (defScope s_law_make) s.heap.objs.size f cdv)).guards = some [])
    (hr : Room 0 (A.deeper (envOfC "_law_make" (defScope s_law_make) s.heap.objs.size f cdv))) : DSs (cxOf CX0 P w K mg base N_law_make "_law_make" (defScope s_law_make) f cdv A outer s H Xe).nox (defBody s_law_make) (ofS xp0 (y_law_make)) := by
  have hu := hu_of hr
  have hu64 := hr.units
  exact (tSs (ds_cons (tS (ds_asg (tE (d_sl (tE (d_op op_addA op2_add (tE (dv 1) i_Var) (tE (d_tup (tA (da_cons (tE d_non i_C) (tA da_nil i_Nil)) i_Cons)) i_Tup)) (i_Op ok_Add)) (tO do_none io_NoPart) (tO (do_some (tE d_int i_C)) io_Part)) i_Sl) (tG (dg_tup rfl (tGs (dgs_cons (tG (dg_name (i := 2) sc_law_make.nd) ig_Name) (tGs (dgs_cons (tG (dg_name (i := 3) sc_law_make.nd) ig_Name) (tGs (dgs_cons (tG (dg_name (i := 4) sc_law_make.nd) ig_Name) (tGs dgs_nil ig_Nil)) ig_Cons)) ig_Cons)) ig_Cons)) ig_Tup)) i_Asg)
      (tSs (ds_cons (tS (ds_if (tT (dt_cmp (op_eqA hu64) op2_eq (tE (dv 2) i_Var) (tE d_str i_C) (nomark _)) (i_BOp (ok_EqN false))) (tSs (ds_cons (tS (ds_asg (tE (dv 4) i_Var) (tG (dg_sub hu (tE (dv 0) i_Var) (tE (dv 3) i_Var)) ig_Sub)) i_Asg)
      (ds_one (tS ds_retN i_RetN))) i_Seq) (tSs ds_nil i_Next)) i_IfS)
      (tSs (ds_cons (tS (ds_set (i := 5) sc_law_make.nd (tE (d_pop2 (tE (dv 0) i_Var) (tE (dv 3) i_Var) (tE d_non i_C)) i_Pop2)) i_Asg1)
      (ds_one (tS (ds_if (DW.t (tW (dw_and (tT (dt_cmp (op_eqA hu64) op2_eq (tE (dv 2) i_Var) (tE d_str i_C) (nomark _)) (i_BOp (ok_EqN false))) (dw_and1 (tT (dt_cmp op_isN op2_isN (tE (dv 5) i_Var) (tE d_non i_C) (nomark _)) (i_BOp (ok_IsN false))))) i_And)) (ds_one (tS (ds_expr (tE (d_pop2 (tE (dv 0) i_Var) (tE (dv 4) i_Var) (tE d_non i_C)) i_Pop2)) i_Drop)) (ds_one (tS (ds_if (tT (dt_cmp (op_eqA hu64) op2_eq (tE (dv 2) i_Var) (tE d_str i_C) (nomark _)) (i_BOp (ok_EqN false))) (ds_one (tS (ds_asg (tE (dv 5) i_Var) (tG (dg_sub hu (tE (dv 0) i_Var) (tE (dv 4) i_Var)) ig_Sub)) i_Asg)) (tSs ds_nil i_Next)) i_IfS))) i_IfS))) i_Seq)) i_Seq)) i_Seq)
theorem b_law_so {f : Addr} (cdv : Value) (A : Around) (outer : List Env) (s : Shared) (H : Hp) (Xe : XK) (hG : (A.deeper (envOfC "_law_so" (defScope s_law_so) s.heap.objs.size f cdv)).guards = some [])
    (hr : Room 0 (A.deeper (envOfC "_law_so" (defScope s_law_so) s.heap.objs.size f cdv))) : DSs (cxOf CX0 P w K mg base N_law_so "_law_so" (defScope s_law_so) f cdv A outer s H Xe).nox (defBody s_law_so) (ofS xp0 (y_law_so)) := by
  have hu := hu_of hr
  have hu64 := hr.units
  exact (tSs (ds_cons (tS (ds_asg (tE (d_sl (tE (d_op op_addA op2_add (tE (dv 0) i_Var) (tE (d_tup (tA (da_cons (tE d_non i_C) (tA da_nil i_Nil)) i_Cons)) i_Tup)) (i_Op ok_Add)) (tO do_none io_NoPart) (tO (do_some (tE d_int i_C)) io_Part)) i_Sl) (tG (dg_tup rfl (tGs (dgs_cons (tG (dg_name (i := 2) sc_law_so.nd) ig_Name) (tGs (dgs_cons (tG (dg_name (i := 3) sc_law_so.nd) ig_Name) (tGs (dgs_cons (tG (dg_name (i := 4) sc_law_so.nd) ig_Name) (tGs dgs_nil ig_Nil)) ig_Cons)) ig_Cons)) ig_Cons)) ig_Tup)) i_Asg)
      (tSs (ds_cons (tS (ds_if (DW.t (tW (dw_or (tT (dt_cmp (op_eqA hu64) op2_eq (tE (dv 2) i_Var) (tE d_str i_C) (nomark _)) (i_BOp (ok_EqN false))) (dw_or1 (tT (dt_niD hu (tE (dv 3) i_Var) (tE (dv 1) i_Var)) (i_B_of i_InD)))) i_Or)) (ds_one (tS (ds_ret (tE (d_inD hu (tE (dv 3) i_Var) (tE (dv 1) i_Var)) i_InD)) i_Ret)) (tSs ds_nil i_Next)) i_IfS)
      (ds_one (tS (ds_ret (tE (d_cmp (op_eqA hu64) op2_eq (tE (d_ix hu (tE (dv 1) i_Var) (tE (dv 3) i_Var)) i_Ix) (tE (d_if (tT (dt_cmp (op_eqA hu64) op2_eq (tE (dv 2) i_Var) (tE d_str i_C) (nomark _)) (i_BOp (ok_EqN false))) (tE (dv 4) i_Var) (tE (d_get2 hu (tE (dv 1) i_Var) (tE (dv 4) i_Var) (tE d_non i_C)) i_Get2)) i_If) (nomark _)) (i_Op (ok_EqN false)))) i_Ret))) i_Seq)) i_Seq)
theorem b_law_entries {n : Nat} {r : XF} (C_law_entries : Cal P w K mg base (2 + n) "_law_entries" s_law_entries p_law_entriess (ofF xp0 r)) (C_law_so : Cal P w K mg base 1 "_law_so" s_law_so p_law_sos (ofF xp0 x_law_so)) (C_law_make : Cal P w K mg base 1 "_law_make" s_law_make p_law_makes (ofF xp0 x_law_make)) {f : Addr} (cdv : Value) (A : Around) (outer : List Env) (s : Shared) (H : Hp) (Xe : XK) (hG : (A.deeper (envOfC "_law_entries" (defScope s_law_entries) s.heap.objs.size f cdv)).guards = some [])
    (hr : Room (2 + n) (A.deeper (envOfC "_law_entries" (defScope s_law_entries) s.heap.objs.size f cdv))) : DSs (cxOf CX0 P w K mg base N_law_entries "_law_entries" (defScope s_law_entries) f cdv A outer s H Xe).nox (defBody s_law_entries) (ofS xp0 (y_law_entries r)) := by
  have hu := hu_of hr
  have hu64 := hr.units
  exact (tSs (ds_cons (tS (ds_set (i := 2) sc_law_entries.nd (tE (d_lstM (tA da_nil i_Nil)) i_LstM)) i_Asg1)
      (tSs (ds_cons (tS (ds_forW [3, 4, 5, 6, 7] false PassesOwn.never rfl (tI (di_any (tE (dv 0) i_Var)) ii_A) (tG (dg_name (i := 3) sc_law_entries.nd) ig_Name) (tSs (ds_cons (tS (ds_asg (tE (d_sl (tE (d_op op_addA op2_add (tE (dv 3) i_Var) (tE (d_tup (tA (da_cons (tE d_non i_C) (tA (da_cons (tE d_non i_C) (tA da_nil i_Nil)) i_Cons)) i_Cons)) i_Tup)) (i_Op ok_Add)) (tO do_none io_NoPart) (tO (do_some (tE d_int i_C)) io_Part)) i_Sl) (tG (dg_tup rfl (tGs (dgs_cons (tG (dg_name (i := 4) sc_law_entries.nd) ig_Name) (tGs (dgs_cons (tG (dg_name (i := 5) sc_law_entries.nd) ig_Name) (tGs (dgs_cons (tG (dg_name (i := 6) sc_law_entries.nd) ig_Name) (tGs dgs_nil ig_Nil)) ig_Cons)) ig_Cons)) ig_Cons)) ig_Tup)) i_Asg)
      (ds_one (tS (ds_if (tT (dt_cmp (op_eqA hu64) op2_eq (tE (dv 4) i_Var) (tE d_str i_C) (nomark _)) (i_BOp (ok_EqN false))) (ds_one (tS (ds_set (i := 2) sc_law_entries.nd (tE (d_addM (tE (dv 2) i_Var) (tE (d_calT C_law_entries hG hr (by omega) (tA (da_cons (tE (d_ix hu (tE (dv 3) i_Var) (tE (d_if (tT (dt_val (tE (d_calT C_law_so hG hr (by omega) (tA (da_cons (tE (dv 5) i_Var) (tA (da_cons (tE (dv 1) i_Var) (tA da_nil i_Nil)) i_Cons)) i_Cons)) i_CallT)) i_B) (tE d_int i_C) (tE d_int i_C)) i_If)) i_Ix) (tA (da_cons (tE (dv 1) i_Var) (tA da_nil i_Nil)) i_Cons)) i_Cons)) i_CallT)) i_AddM)) i_Asg1)) (ds_one (tS (ds_if (tT (dt_cmp op_inA (op2_inN false) (tE (dv 4) i_Var) (tE (d_tup (tA (da_cons (tE d_str i_C) (tA (da_cons (tE d_str i_C) (tA da_nil i_Nil)) i_Cons)) i_Cons)) i_Tup) (by rfl)) (i_BOp (ok_In false))) (ds_one (tS (ds_expr (tE (d_app (tE (dv 2) i_Var) (tE (dv 3) i_Var)) i_App)) i_Drop)) (ds_one (tS (ds_if (DW.t (tW (dw_or (tT (dt_cmp (op_eqA hu64) op2_eq (tE (dv 4) i_Var) (tE d_str i_C) (nomark _)) (i_BOp (ok_EqN false))) (dw_or1 (tT (dt_inD hu (tE (dv 5) i_Var) (tE (dv 1) i_Var)) (i_B_of i_InD)))) i_Or)) (tSs (ds_cons (tS (ds_set (i := 7) sc_law_entries.nd (tE (d_get2 hu (tE (d_disp (tPs (dp_cons (tE d_str i_C) (tE (d_tup (tA (da_cons (tE d_str i_C) (tA (da_cons (tE (dv 5) i_Var) (tA (da_cons (tE (dv 6) i_Var) (tA da_nil i_Nil)) i_Cons)) i_Cons)) i_Cons)) i_Tup) (tPs (dp_cons (tE d_str i_C) (tE (d_tup (tA (da_cons (tE d_str i_C) (tA (da_cons (tE (dv 6) i_Var) (tA (da_cons (tE (d_get2 hu (tE (dv 1) i_Var) (tE (dv 5) i_Var) (tE d_non i_C)) i_Get2) (tA da_nil i_Nil)) i_Cons)) i_Cons)) i_Cons)) i_Tup) (tPs dp_nil ip_Nil)) ip_Cons)) ip_Cons)) i_Disp) (tE (dv 4) i_Var) (tE d_non i_C)) i_Get2)) i_Asg1)
      (tSs (ds_cons (tS (ds_set (i := 7) sc_law_entries.nd (tE (d_get2 hu (tE (d_disp (tPs (dp_cons (tE d_str i_C) (tE (d_tup (tA (da_cons (tE d_str i_C) (tA (da_cons (tE (dv 5) i_Var) (tA (da_cons (tE (dv 6) i_Var) (tA da_nil i_Nil)) i_Cons)) i_Cons)) i_Cons)) i_Tup) (tPs (dp_cons (tE d_str i_C) (tE (d_tup (tA (da_cons (tE d_str i_C) (tA (da_cons (tE (dv 5) i_Var) (tA da_nil i_Nil)) i_Cons)) i_Cons)) i_Tup) (tPs dp_nil ip_Nil)) ip_Cons)) ip_Cons)) i_Disp) (tE (dv 4) i_Var) (tE (dv 7) i_Var)) i_Get2)) i_Asg1)
      (tSs (ds_cons (tS (ds_expr (tE (d_calT C_law_make hG hr (by omega) (tA (da_cons (tE (dv 1) i_Var) (tA (da_cons (tE (dv 7) i_Var) (tA da_nil i_Nil)) i_Cons)) i_Cons)) i_CallT)) i_Drop)
      (ds_one (tS (ds_expr (tE (d_app (tE (dv 2) i_Var) (tE (dv 7) i_Var)) i_App)) i_Drop))) i_Seq)) i_Seq)) i_Seq) (tSs ds_nil i_Next)) i_IfS))) i_IfS))) i_IfS))) i_Seq)) i_ForW)
      (tSs (dss_frzV 2 (ds_one (tS (ds_ret (tE (dv 2) i_Var)) i_Ret))) i_FrzV)) i_Seq)) i_Seq)
theorem b_law_by_hand (z_int : mg "int" = none) {f : Addr} (cdv : Value) (A : Around) (outer : List Env) (s : Shared) (H : Hp) (Xe : XK) (hG : (A.deeper (envOfC "_law_by_hand" (defScope s_law_by_hand) s.heap.objs.size f cdv)).guards = some [])
    (hr : Room 0 (A.deeper (envOfC "_law_by_hand" (defScope s_law_by_hand) s.heap.objs.size f cdv))) : DSs (cxOf CX0 P w K mg base N_law_by_hand "_law_by_hand" (defScope s_law_by_hand) f cdv A outer s H Xe).nox (defBody s_law_by_hand) (ofS xp0 (y_law_by_hand)) := by
  have hu := hu_of hr
  have hu64 := hr.units
  exact (tSs (ds_cons (tS (ds_asg (tE (d_tup (tA (da_cons (tE (d_tup (tA (da_cons (tE (d_tup (tA (da_cons (tE d_str i_C) (tA da_nil i_Nil)) i_Cons)) i_Tup) (tA da_nil i_Nil)) i_Cons)) i_Tup) (tA (da_cons (tE (d_tup (tA (da_cons (tE (d_tup (tA (da_cons (tE d_str i_C) (tA (da_cons (tE d_str i_C) (tA da_nil i_Nil)) i_Cons)) i_Cons)) i_Tup) (tA da_nil i_Nil)) i_Cons)) i_Tup) (tA da_nil i_Nil)) i_Cons)) i_Cons)) i_Tup) (tG (dg_tup rfl (tGs (dgs_cons (tG (dg_name (i := 0) sc_law_by_hand.nd) ig_Name) (tGs (dgs_cons (tG (dg_name (i := 1) sc_law_by_hand.nd) ig_Name) (tGs dgs_nil ig_Nil)) ig_Cons)) ig_Cons)) ig_Tup)) i_Asg)
      (tSs (ds_cons (tS (ds_set (i := 2) sc_law_by_hand.nd (tE (d_lstM (tA da_nil i_Nil)) i_LstM)) i_Asg1)
      (tSs (ds_cons (tS (ds_forW [3, 4, 5] false PassesOwn.never rfl (tI (di_any (tE (d_lst (tA (da_cons (tE (d_tup (tA (da_cons (tE (d_tup (tA (da_cons (tE d_str i_C) (tA (da_cons (tE d_str i_C) (tA da_nil i_Nil)) i_Cons)) i_Cons)) i_Tup) (tA (da_cons (tE (d_tup (tA (da_cons (tE (d_tup (tA (da_cons (tE d_str i_C) (tA (da_cons (tE d_int i_C) (tA da_nil i_Nil)) i_Cons)) i_Cons)) i_Tup) (tA da_nil i_Nil)) i_Cons)) i_Tup) (tA (da_cons (tE d_bl i_C) (tA da_nil i_Nil)) i_Cons)) i_Cons)) i_Cons)) i_Tup) (tA (da_cons (tE (d_tup (tA (da_cons (tE (d_tup (tA (da_cons (tE d_str i_C) (tA (da_cons (tE d_str i_C) (tA da_nil i_Nil)) i_Cons)) i_Cons)) i_Tup) (tA (da_cons (tE (d_tup (tA (da_cons (tE (d_tup (tA (da_cons (tE d_str i_C) (tA (da_cons (tE d_int i_C) (tA da_nil i_Nil)) i_Cons)) i_Cons)) i_Tup) (tA da_nil i_Nil)) i_Cons)) i_Tup) (tA (da_cons (tE d_bl i_C) (tA da_nil i_Nil)) i_Cons)) i_Cons)) i_Cons)) i_Tup) (tA (da_cons (tE (d_tup (tA (da_cons (tE (d_tup (tA (da_cons (tE d_str i_C) (tA (da_cons (tE d_str i_C) (tA (da_cons (tE d_str i_C) (tA da_nil i_Nil)) i_Cons)) i_Cons)) i_Cons)) i_Tup) (tA (da_cons (tE (d_tup (tA da_nil i_Nil)) i_Tup) (tA (da_cons (tE d_bl i_C) (tA da_nil i_Nil)) i_Cons)) i_Cons)) i_Cons)) i_Tup) (tA (da_cons (tE (d_tup (tA (da_cons (tE (d_tup (tA (da_cons (tE d_str i_C) (tA (da_cons (tE d_str i_C) (tA (da_cons (tE d_str i_C) (tA da_nil i_Nil)) i_Cons)) i_Cons)) i_Cons)) i_Tup) (tA (da_cons (tE (d_tup (tA (da_cons (tE (d_tup (tA (da_cons (tE d_str i_C) (tA (da_cons (tE d_int i_C) (tA da_nil i_Nil)) i_Cons)) i_Cons)) i_Tup) (tA (da_cons (tE (d_tup (tA (da_cons (tE d_str i_C) (tA (da_cons (tE d_int i_C) (tA da_nil i_Nil)) i_Cons)) i_Cons)) i_Tup) (tA da_nil i_Nil)) i_Cons)) i_Cons)) i_Tup) (tA (da_cons (tE d_bl i_C) (tA da_nil i_Nil)) i_Cons)) i_Cons)) i_Cons)) i_Tup) (tA (da_cons (tE (d_tup (tA (da_cons (tE (d_tup (tA (da_cons (tE d_str i_C) (tA (da_cons (tE d_str i_C) (tA (da_cons (tE d_str i_C) (tA da_nil i_Nil)) i_Cons)) i_Cons)) i_Cons)) i_Tup) (tA (da_cons (tE (d_tup (tA (da_cons (tE (d_tup (tA (da_cons (tE d_str i_C) (tA (da_cons (tE d_int i_C) (tA da_nil i_Nil)) i_Cons)) i_Cons)) i_Tup) (tA (da_cons (tE (d_tup (tA (da_cons (tE d_str i_C) (tA (da_cons (tE d_int i_C) (tA da_nil i_Nil)) i_Cons)) i_Cons)) i_Tup) (tA da_nil i_Nil)) i_Cons)) i_Cons)) i_Tup) (tA (da_cons (tE d_bl i_C) (tA da_nil i_Nil)) i_Cons)) i_Cons)) i_Cons)) i_Tup) (tA (da_cons (tE (d_tup (tA (da_cons (tE (d_tup (tA (da_cons (tE d_str i_C) (tA (da_cons (tE d_str i_C) (tA (da_cons (tE d_str i_C) (tA da_nil i_Nil)) i_Cons)) i_Cons)) i_Cons)) i_Tup) (tA (da_cons (tE (d_tup (tA (da_cons (tE (d_tup (tA (da_cons (tE d_str i_C) (tA (da_cons (tE d_int i_C) (tA da_nil i_Nil)) i_Cons)) i_Cons)) i_Tup) (tA da_nil i_Nil)) i_Cons)) i_Tup) (tA (da_cons (tE d_bl i_C) (tA da_nil i_Nil)) i_Cons)) i_Cons)) i_Cons)) i_Tup) (tA (da_cons (tE (d_tup (tA (da_cons (tE (d_tup (tA (da_cons (tE d_str i_C) (tA (da_cons (tE d_str i_C) (tA (da_cons (tE d_str i_C) (tA da_nil i_Nil)) i_Cons)) i_Cons)) i_Cons)) i_Tup) (tA (da_cons (tE (d_tup (tA (da_cons (tE (d_tup (tA (da_cons (tE d_str i_C) (tA (da_cons (tE d_str i_C) (tA da_nil i_Nil)) i_Cons)) i_Cons)) i_Tup) (tA (da_cons (tE (d_tup (tA (da_cons (tE d_str i_C) (tA (da_cons (tE d_str i_C) (tA da_nil i_Nil)) i_Cons)) i_Cons)) i_Tup) (tA da_nil i_Nil)) i_Cons)) i_Cons)) i_Tup) (tA (da_cons (tE d_bl i_C) (tA da_nil i_Nil)) i_Cons)) i_Cons)) i_Cons)) i_Tup) (tA (da_cons (tE (d_tup (tA (da_cons (tE (d_tup (tA (da_cons (tE d_str i_C) (tA (da_cons (tE d_str i_C) (tA (da_cons (tE d_str i_C) (tA da_nil i_Nil)) i_Cons)) i_Cons)) i_Cons)) i_Tup) (tA (da_cons (tE (d_tup (tA (da_cons (tE (d_tup (tA (da_cons (tE d_str i_C) (tA (da_cons (tE d_str i_C) (tA da_nil i_Nil)) i_Cons)) i_Cons)) i_Tup) (tA da_nil i_Nil)) i_Cons)) i_Tup) (tA (da_cons (tE d_bl i_C) (tA da_nil i_Nil)) i_Cons)) i_Cons)) i_Cons)) i_Tup) (tA (da_cons (tE (d_tup (tA (da_cons (tE (d_tup (tA (da_cons (tE d_str i_C) (tA (da_cons (tE d_str i_C) (tA (da_cons (tE d_str i_C) (tA da_nil i_Nil)) i_Cons)) i_Cons)) i_Cons)) i_Tup) (tA (da_cons (tE (d_tup (tA (da_cons (tE (d_tup (tA (da_cons (tE d_str i_C) (tA (da_cons (tE d_int i_C) (tA da_nil i_Nil)) i_Cons)) i_Cons)) i_Tup) (tA da_nil i_Nil)) i_Cons)) i_Tup) (tA (da_cons (tE d_bl i_C) (tA da_nil i_Nil)) i_Cons)) i_Cons)) i_Cons)) i_Tup) (tA (da_cons (tE (d_tup (tA (da_cons (tE (d_tup (tA (da_cons (tE d_str i_C) (tA (da_cons (tE d_str i_C) (tA (da_cons (tE d_str i_C) (tA da_nil i_Nil)) i_Cons)) i_Cons)) i_Cons)) i_Tup) (tA (da_cons (tE (d_tup (tA da_nil i_Nil)) i_Tup) (tA (da_cons (tE d_bl i_C) (tA da_nil i_Nil)) i_Cons)) i_Cons)) i_Cons)) i_Tup) (tA (da_cons (tE (d_tup (tA (da_cons (tE (d_tup (tA (da_cons (tE d_str i_C) (tA (da_cons (tE d_str i_C) (tA (da_cons (tE d_str i_C) (tA da_nil i_Nil)) i_Cons)) i_Cons)) i_Cons)) i_Tup) (tA (da_cons (tE (d_tup (tA (da_cons (tE (d_tup (tA (da_cons (tE d_str i_C) (tA (da_cons (tE d_str i_C) (tA da_nil i_Nil)) i_Cons)) i_Cons)) i_Tup) (tA (da_cons (tE (d_tup (tA (da_cons (tE d_str i_C) (tA (da_cons (tE d_str i_C) (tA da_nil i_Nil)) i_Cons)) i_Cons)) i_Tup) (tA da_nil i_Nil)) i_Cons)) i_Cons)) i_Tup) (tA (da_cons (tE d_bl i_C) (tA da_nil i_Nil)) i_Cons)) i_Cons)) i_Cons)) i_Tup) (tA (da_cons (tE (d_tup (tA (da_cons (tE (d_tup (tA (da_cons (tE d_str i_C) (tA (da_cons (tE d_str i_C) (tA (da_cons (tE d_str i_C) (tA da_nil i_Nil)) i_Cons)) i_Cons)) i_Cons)) i_Tup) (tA (da_cons (tE (d_tup (tA (da_cons (tE (d_tup (tA (da_cons (tE d_str i_C) (tA (da_cons (tE d_int i_C) (tA da_nil i_Nil)) i_Cons)) i_Cons)) i_Tup) (tA da_nil i_Nil)) i_Cons)) i_Tup) (tA (da_cons (tE d_bl i_C) (tA da_nil i_Nil)) i_Cons)) i_Cons)) i_Cons)) i_Tup) (tA da_nil i_Nil)) i_Cons)) i_Cons)) i_Cons)) i_Cons)) i_Cons)) i_Cons)) i_Cons)) i_Cons)) i_Cons)) i_Cons)) i_Cons)) i_Cons)) i_Lst)) ii_A) (tG (dg_tup rfl (tGs (dgs_cons (tG (dg_name (i := 3) sc_law_by_hand.nd) ig_Name) (tGs (dgs_cons (tG (dg_name (i := 4) sc_law_by_hand.nd) ig_Name) (tGs (dgs_cons (tG (dg_name (i := 5) sc_law_by_hand.nd) ig_Name) (tGs dgs_nil ig_Nil)) ig_Cons)) ig_Cons)) ig_Cons)) ig_Tup) (ds_one (tS (ds_expr (tE (d_app (tE (dv 2) i_Var) (tE (d_tup (tA (da_cons (tE (d_tup (tA (da_cons (tE (d_tup (tA (da_cons (tE d_str i_C) (tA (da_cons (tE (dv 3) i_Var) (tA (da_cons (tE (dv 0) i_Var) (tA (da_cons (tE (dv 1) i_Var) (tA da_nil i_Nil)) i_Cons)) i_Cons)) i_Cons)) i_Cons)) i_Tup) (tA da_nil i_Nil)) i_Cons)) i_Tup) (tA (da_cons (tE (dv 4) i_Var) (tA (da_cons (tE (d_ix hu (tE (d_lst (tA (da_cons (tE (dv 1) i_Var) (tA (da_cons (tE (dv 0) i_Var) (tA da_nil i_Nil)) i_Cons)) i_Cons)) i_Lst) (tE (d_cty call_int1 opN_int z_int (by decide +kernel) (tA (da_cons (tE (dv 5) i_Var) (tA da_nil i_Nil)) i_Cons)) (i_CB ok_Int))) i_Ix) (tA da_nil i_Nil)) i_Cons)) i_Cons)) i_Cons)) i_Tup)) i_App)) i_Drop))) i_ForW)
      (tSs (dss_frzV 2 (tSs (ds_cons (tS (ds_set (i := 6) sc_law_by_hand.nd (tE (d_tup (tA (da_cons (tE (d_tup (tA (da_cons (tE d_str i_C) (tA (da_cons (tE d_str i_C) (tA (da_cons (tE d_str i_C) (tA da_nil i_Nil)) i_Cons)) i_Cons)) i_Cons)) i_Tup) (tA (da_cons (tE (d_tup (tA (da_cons (tE d_str i_C) (tA (da_cons (tE (d_tup (tA (da_cons (tE d_str i_C) (tA (da_cons (tE d_str i_C) (tA (da_cons (tE d_str i_C) (tA da_nil i_Nil)) i_Cons)) i_Cons)) i_Cons)) i_Tup) (tA (da_cons (tE (d_tup (tA (da_cons (tE (d_tup (tA (da_cons (tE d_str i_C) (tA (da_cons (tE d_str i_C) (tA (da_cons (tE d_str i_C) (tA da_nil i_Nil)) i_Cons)) i_Cons)) i_Cons)) i_Tup) (tA da_nil i_Nil)) i_Cons)) i_Tup) (tA (da_cons (tE (d_tup (tA da_nil i_Nil)) i_Tup) (tA da_nil i_Nil)) i_Cons)) i_Cons)) i_Cons)) i_Cons)) i_Tup) (tA da_nil i_Nil)) i_Cons)) i_Cons)) i_Tup)) i_Asg1)
      (tSs (ds_cons (tS (ds_set (i := 6) sc_law_by_hand.nd (tE (d_op op_addA op2_add (tE (dv 6) i_Var) (tE (d_tup (tA (da_cons (tE (d_tup (tA (da_cons (tE d_str i_C) (tA (da_cons (tE (d_tup (tA (da_cons (tE d_str i_C) (tA (da_cons (tE d_str i_C) (tA da_nil i_Nil)) i_Cons)) i_Cons)) i_Tup) (tA (da_cons (tE (dv 1) i_Var) (tA (da_cons (tE (d_tup (tA (da_cons (tE (d_tup (tA (da_cons (tE d_str i_C) (tA (da_cons (tE (d_tup (tA (da_cons (tE d_str i_C) (tA (da_cons (tE d_str i_C) (tA (da_cons (tE d_str i_C) (tA da_nil i_Nil)) i_Cons)) i_Cons)) i_Cons)) i_Tup) (tA (da_cons (tE (dv 1) i_Var) (tA (da_cons (tE (dv 0) i_Var) (tA da_nil i_Nil)) i_Cons)) i_Cons)) i_Cons)) i_Cons)) i_Tup) (tA da_nil i_Nil)) i_Cons)) i_Tup) (tA da_nil i_Nil)) i_Cons)) i_Cons)) i_Cons)) i_Cons)) i_Tup) (tA da_nil i_Nil)) i_Cons)) i_Tup)) (i_Op ok_Add))) i_Asg1)
      (ds_one (tS (ds_ret (tE (d_op op_addA op2_add (tE (dv 2) i_Var) (tE (d_lst (tA (da_cons (tE (d_tup (tA (da_cons (tE (dv 6) i_Var) (tA (da_cons (tE (d_tup (tA (da_cons (tE (d_tup (tA (da_cons (tE d_str i_C) (tA (da_cons (tE d_int i_C) (tA da_nil i_Nil)) i_Cons)) i_Cons)) i_Tup) (tA da_nil i_Nil)) i_Cons)) i_Tup) (tA (da_cons (tE (d_tup (tA (da_cons (tE (d_tup (tA (da_cons (tE d_str i_C) (tA (da_cons (tE d_str i_C) (tA (da_cons (tE d_str i_C) (tA da_nil i_Nil)) i_Cons)) i_Cons)) i_Cons)) i_Tup) (tA (da_cons (tE (d_tup (tA (da_cons (tE d_str i_C) (tA (da_cons (tE d_str i_C) (tA (da_cons (tE d_str i_C) (tA da_nil i_Nil)) i_Cons)) i_Cons)) i_Cons)) i_Tup) (tA (da_cons (tE (d_tup (tA (da_cons (tE d_str i_C) (tA da_nil i_Nil)) i_Cons)) i_Tup) (tA da_nil i_Nil)) i_Cons)) i_Cons)) i_Cons)) i_Tup) (tA da_nil i_Nil)) i_Cons)) i_Cons)) i_Cons)) i_Tup) (tA da_nil i_Nil)) i_Cons)) i_Lst)) (i_Op ok_Add))) i_Ret))) i_Seq)) i_Seq)) i_FrzV)) i_Seq)) i_Seq)) i_Seq)
theorem b_law {cRunner : Addr} (C_law_deck : Cal P w K mg base 1 "_law_deck" s_law_deck p_law_decks (ofF xp0 x_law_deck)) (C_law_kit : Cal P w K mg base 3 "_law_kit" s_law_kit p_law_kits (ofF xp0 x_law_kit)) (C_law_draw : Cal P w K mg base 1 "_law_draw" s_law_draw p_law_draws (ofF xp0 x_law_draw)) (C_law_script : Cal P w K mg base 24 "_law_script" s_law_script p_law_scripts (ofF xp0 (x_law_script 20))) (C_law_disk : Cal P w K mg base 3 "_law_disk" s_law_disk p_law_disks (ofF xp0 x_law_disk)) (C_law_entries : Cal P w K mg base 22 "_law_entries" s_law_entries p_law_entriess (ofF xp0 (x_law_entries 20))) (C_trace : Cal P w K mg base 46 "trace" s_trace p_traces (ofF xp0 (x_trace cRunner))) (C_law_by_hand : Cal P w K mg base 1 "_law_by_hand" s_law_by_hand p_law_by_hands (ofF xp0 x_law_by_hand)) (z_dict : mg "dict" = none) (z_list : mg "list" = none) (z_range : mg "range" = none) (z_repr : mg "repr" = none) (z_tuple : mg "tuple" = none) {f : Addr} (cdv : Value) (A : Around) (outer : List Env) (s : Shared) (H : Hp) (Xe : XK) (hG : (A.deeper (envOfC "law" (defScope s_law) s.heap.objs.size f cdv)).guards = some [])
    (hr : Room 46 (A.deeper (envOfC "law" (defScope s_law) s.heap.objs.size f cdv))) : DSs (cxOf CX0 P w K mg base N_law "law" (defScope s_law) f cdv A outer s H Xe).nox (defBody s_law) (ofS xp0 (y_law cRunner)) := by
  have hu := hu_of hr
  have hu64 := hr.units
  exact (tSs (ds_cons (tS (ds_set (i := 1) sc_law.nd (tE (d_calW C_law_deck hG hr (by decide) (tA (da_cons (tE (dv 0) i_Var) (tA da_nil i_Nil)) i_Cons)) i_CallA)) i_Asg1)
      (tSs (ds_cons (tS (ds_set (i := 2) sc_law.nd (tE (d_lst (tA (da_cons (tE d_str i_C) (tA (da_cons (tE d_str i_C) (tA (da_cons (tE d_str i_C) (tA (da_cons (tE d_str i_C) (tA (da_cons (tE d_str i_C) (tA (da_cons (tE d_str i_C) (tA (da_cons (tE d_str i_C) (tA (da_cons (tE d_str i_C) (tA da_nil i_Nil)) i_Cons)) i_Cons)) i_Cons)) i_Cons)) i_Cons)) i_Cons)) i_Cons)) i_Cons)) i_Lst)) i_Asg1)
      (tSs (ds_cons (tS (ds_forW [3, 4, 5, 6, 7] true PassesOwn.never rfl (tI (di_range1 z_range (tA (da_cons (tE d_int i_C) (tA da_nil i_Nil)) i_Cons)) ii_R1) (tG (dg_name (i := 3) sc_law.nd) ig_Name) (tSs (ds_cons (tS (ds_set (i := 4) sc_law.nd (tE (d_calW C_law_kit hG hr (by decide) (tA (da_cons (tE (dv 1) i_Var) (tA (da_cons (tE (d_op op_addA op2_add (tE d_int i_C) (tE (d_cal 2 C_law_draw hG hr (by decide) (tA (da_cons (tE (dv 1) i_Var) (tA (da_cons (tE d_int i_C) (tA da_nil i_Nil)) i_Cons)) i_Cons)) i_CallN)) (i_Op ok_Add)) (tA da_nil i_Nil)) i_Cons)) i_Cons)) i_CallA)) i_Asg1)
      (tSs (ds_cons (tS (ds_expr (tE (d_upd2 (tE (dv 4) i_Var) (tE (d_disp (tPs (dp_cons (tE d_str i_C) (tE d_int i_C) (tPs (dp_cons (tE d_str i_C) (tE d_int i_C) (tPs (dp_cons (tE d_str i_C) (tE (dv 2) i_Var) (tPs dp_nil ip_Nil)) ip_Cons)) ip_Cons)) ip_Cons)) i_Disp)) i_Upd)) i_Drop)
      (tSs (ds_cons (tS (ds_par (i := 5) (j := 6) rfl sc_law.nd (tA (da_cons (tE (d_calT C_law_script hG hr (by decide) (tA (da_cons (tE (dv 1) i_Var) (tA (da_cons (tE (dv 4) i_Var) (tA (da_cons (tE d_int i_C) (tA da_nil i_Nil)) i_Cons)) i_Cons)) i_Cons)) i_CallT) (tA (da_cons (tE (d_calT C_law_disk hG hr (by decide) (tA (da_cons (tE (dv 1) i_Var) (tA (da_cons (tE (dv 4) i_Var) (tA (da_cons (tE (d_lst (tA (da_cons (tE d_str i_C) (tA da_nil i_Nil)) i_Cons)) i_Lst) (tA da_nil i_Nil)) i_Cons)) i_Cons)) i_Cons)) i_CallT) (tA da_nil i_Nil)) i_Cons)) i_Cons)) i_Par)
      (tSs (ds_cons (tS (ds_set (i := 7) sc_law.nd (tE (d_cty call_tuple_of opN_tuple z_tuple PyProof.Rows.boot_tuple (tA (da_cons (tE (d_calT C_law_entries hG hr (by decide) (tA (da_cons (tE (dv 5) i_Var) (tA (da_cons (tE (d_dictP true rfl z_dict (tA (da_cons (tE (d_cty call_list_of opN_list z_list boot_list (tA (da_cons (tE (dv 6) i_Var) (tA da_nil i_Nil)) i_Cons)) (i_CB ok_List)) (tA da_nil i_Nil)) i_Cons)) i_DictP) (tA da_nil i_Nil)) i_Cons)) i_Cons)) i_CallT) (tA da_nil i_Nil)) i_Cons)) (i_CB ok_Tuple))) i_Asg1)
      (ds_one (tS (ds_if (DW.t (tW (dw_or (tT (dt_cmp (op_neA hu64) op2_ne (tE (d_cb (call_reprA hG hu64) opN_reprA z_repr PyProof.Rows.boot_repr (tA (da_cons (tE (d_cal 0 C_trace hG hr (by decide) (tA (da_cons (tE (dv 5) i_Var) (tA (da_cons (tE (dv 6) i_Var) (tA da_nil i_Nil)) i_Cons)) i_Cons)) i_CallN) (tA da_nil i_Nil)) i_Cons)) (i_CB ok_ReprA)) (tE (d_cb (call_reprA hG hu64) opN_reprA z_repr PyProof.Rows.boot_repr (tA (da_cons (tE (dv 7) i_Var) (tA da_nil i_Nil)) i_Cons)) (i_CB ok_ReprA)) (nomark _)) (i_BOp (ok_EqN true))) (dw_or1 (tT (dt_cmp (op_neA hu64) op2_ne (tE (d_cb (call_reprA hG hu64) opN_reprA z_repr PyProof.Rows.boot_repr (tA (da_cons (tE (d_calK 0 C_trace hG hr (by decide) kw_trace_1_disk (by decide) (tA (da_cons (tE (dv 5) i_Var) (tA da_nil i_Nil)) i_Cons) (tK (dk_cons (tE (dv 6) i_Var) (tK dk_nil i_Nil)) i_Cons)) i_CallK) (tA da_nil i_Nil)) i_Cons)) (i_CB ok_ReprA)) (tE (d_cb (call_reprA hG hu64) opN_reprA z_repr PyProof.Rows.boot_repr (tA (da_cons (tE (dv 7) i_Var) (tA da_nil i_Nil)) i_Cons)) (i_CB ok_ReprA)) (nomark _)) (i_BOp (ok_EqN true))))) i_Or)) (ds_one (tS (ds_ret (tE d_bl i_C)) i_Ret)) (tSs ds_nil i_Next)) i_IfS))) i_Seq)) i_Seq)) i_Seq)) i_Seq)) i_ForW)
      (ds_one (tS (ds_ret (tE (d_cmp (op_eqA hu64) op2_eq (tE (d_lcV [("_law_plan", 5), ("_law_here", 6), ("_law_due", 7)] [5, 6, 7] rfl rfl sc_law.nd (tI (di_any (tE (d_cal0 0 C_law_by_hand hG hr (by decide)) i_CallN0)) ii_A) (blkOk_by (N := N_law) (sc := defScope s_law) (by decide +kernel)) (tCG (cg_three (i := 5) (j := 6) (l := 7) rfl sc_law.nd) ig_Three) (ct_one fun _ _ _ _ _ => (tT (dt_cmp (op_neA hu64) op2_ne (tE (d_cb (call_reprA hG hu64) opN_reprA z_repr PyProof.Rows.boot_repr (tA (da_cons (tE (d_cal 0 C_trace hG hr (by decide) (tA (da_cons (tE (dv 5) i_Var) (tA (da_cons (tE (dv 6) i_Var) (tA da_nil i_Nil)) i_Cons)) i_Cons)) i_CallN) (tA da_nil i_Nil)) i_Cons)) (i_CB ok_ReprA)) (tE (d_cb (call_reprA hG hu64) opN_reprA z_repr PyProof.Rows.boot_repr (tA (da_cons (tE (dv 7) i_Var) (tA da_nil i_Nil)) i_Cons)) (i_CB ok_ReprA)) (nomark _)) (i_BOp (ok_EqN true)))) (ce_of fun _ _ _ _ _ => (tE (dv 5) i_Var))) i_Lc) (tE (d_lst (tA da_nil i_Nil)) i_Lst) (nomark _)) (i_Op (ok_EqN false)))) i_Ret))) i_Seq)) i_Seq)) i_Seq)
end
end LL
namespace LL
open PySem PySem.Spec PyProof.Rows L2 DL
section
variable {P : Program} {w : World} {K : PySem.W.Frag} {mg : Str → Option Value} {base : Heap}
theorem ok_as_dict {f : Addr} {fd : FuncData} (Fu : Fun K "as_dict" "as_dict" s_as_dict f fd) : FnD P w K mg base 1 f fd p_as_dicts (ofF xp0 x_as_dict) :=
  okD Fu sc_as_dict (fun cdv A outer s H Xe hG hr => b_as_dict cdv A outer s H Xe hG hr) fun es m dQ hl h => i_Def h
theorem ok_make_change {f : Addr} {fd : FuncData} (Fu : Fun K "make_change" "make_change" s_make_change f fd) : FnD P w K mg base 1 f fd p_make_changes (ofF xp0 x_make_change) :=
  okD Fu sc_make_change (fun cdv A outer s H Xe hG hr => b_make_change cdv A outer s H Xe hG hr) fun es m dQ hl h => i_Def h
theorem ok_Runner_is_true {cRunner : Addr} (cls_Runner : Cls K cRunner) (nf_Runner_contents_seen : NoAttr K cRunner "contents_seen") {f : Addr} {fd : FuncData} (Fu : Fun K "is_true" "Runner.is_true" s_Runner_is_true f fd) : FnD P w K mg base 1 f fd p_Runner_is_trues (ofF xp0 (x_Runner_is_true cRunner)) :=
  okD Fu sc_Runner_is_true (fun cdv A outer s H Xe hG hr => b_Runner_is_true cls_Runner nf_Runner_contents_seen cdv A outer s H Xe hG hr) fun es m dQ hl h => i_Def h
theorem ok_Runner_change_of {cRunner : Addr} (cls_Runner : Cls K cRunner) (nf_Runner_contents_seen : NoAttr K cRunner "contents_seen") {f : Addr} {fd : FuncData} (Fu : Fun K "change_of" "Runner.change_of" s_Runner_change_of f fd) : FnD P w K mg base 1 f fd p_Runner_change_ofs (ofF xp0 (x_Runner_change_of cRunner)) :=
  okD Fu sc_Runner_change_of (fun cdv A outer s H Xe hG hr => b_Runner_change_of cls_Runner nf_Runner_contents_seen cdv A outer s H Xe hG hr) fun es m dQ hl h => i_Def h
theorem ok_Runner_execute_change {cRunner : Addr} (C_Runner_change_of : CalM P w K mg base 1 cRunner "change_of" p_Runner_change_ofs (ofF xp0 (x_Runner_change_of cRunner))) (C_make_change : Cal P w K mg base 1 "make_change" s_make_change p_make_changes (ofF xp0 x_make_change)) (cls_Runner : Cls K cRunner) (nf_Runner_contents_seen : NoAttr K cRunner "contents_seen") (nf_Runner_entries_made : NoAttr K cRunner "entries_made") {f : Addr} {fd : FuncData} (Fu : Fun K "execute_change" "Runner.execute_change" s_Runner_execute_change f fd) : FnD P w K mg base 2 f fd p_Runner_execute_changes (ofF xp0 (x_Runner_execute_change cRunner)) :=
  okD Fu sc_Runner_execute_change (fun cdv A outer s H Xe hG hr => b_Runner_execute_change C_Runner_change_of C_make_change cls_Runner nf_Runner_contents_seen nf_Runner_entries_made cdv A outer s H Xe hG hr) fun es m dQ hl h => i_Def h
theorem ok_Runner_execute_all {cRunner : Addr} (C_Runner_is_true : CalM P w K mg base 1 cRunner "is_true" p_Runner_is_trues (ofF xp0 (x_Runner_is_true cRunner))) (C_Runner_execute_change : CalM P w K mg base 2 cRunner "execute_change" p_Runner_execute_changes (ofF xp0 (x_Runner_execute_change cRunner))) (cls_Runner : Cls K cRunner) (nf_Runner_entries_made : NoAttr K cRunner "entries_made") {k_FLUSH : Tok} (c_FLUSH : mg "FLUSH" = some (.str "flush" k_FLUSH)) {k_SYNC : Tok} (c_SYNC : mg "SYNC" = some (.str "sync" k_SYNC)) {f_Runner_execute f_Runner_execute_all : Addr} {fd_Runner_execute fd_Runner_execute_all : FuncData} (Fu_Runner_execute : Fun K "execute" "Runner.execute" s_Runner_execute f_Runner_execute fd_Runner_execute) (hb_Runner_execute : Binds K fd_Runner_execute p_Runner_executes []) (hm_Runner_execute : Meth K cRunner "execute" f_Runner_execute) (Fu_Runner_execute_all : Fun K "execute_all" "Runner.execute_all" s_Runner_execute_all f_Runner_execute_all fd_Runner_execute_all) (hb_Runner_execute_all : Binds K fd_Runner_execute_all p_Runner_execute_alls []) (hm_Runner_execute_all : Meth K cRunner "execute_all" f_Runner_execute_all) : ∀ n, FnD P w K mg base (3 + 2 * n) f_Runner_execute_all fd_Runner_execute_all p_Runner_execute_alls (ofF xp0 (x_Runner_execute_all cRunner n)) :=
  fuelDs (x_Runner_execute_all cRunner) rfl fun n ih => by
    have C_Runner_execute_all : CalM P w K mg base (3 + 2 * n) cRunner "execute_all" p_Runner_execute_alls (ofF xp0 (x_Runner_execute_all cRunner n)) := ⟨f_Runner_execute_all, fd_Runner_execute_all, ih, hm_Runner_execute_all, hb_Runner_execute_all⟩
    have C_Runner_execute : CalM P w K mg base (3 + 2 * n + 1) cRunner "execute" p_Runner_executes (ofF xp0 (x_Runner_execute cRunner (x_Runner_execute_all cRunner n))) := ⟨f_Runner_execute, fd_Runner_execute, okD Fu_Runner_execute sc_Runner_execute (fun cdv A outer s H Xe hG hr => b_Runner_execute (n := n) C_Runner_execute_all C_Runner_is_true C_Runner_execute_change cls_Runner nf_Runner_entries_made c_FLUSH c_SYNC cdv A outer s H Xe hG hr) fun es m dQ hl h => i_Def h, hm_Runner_execute, hb_Runner_execute⟩
    exact okD Fu_Runner_execute_all sc_Runner_execute_all (fun cdv A outer s H Xe hG hr => b_Runner_execute_all (n := n) C_Runner_execute cls_Runner cdv A outer s H Xe hG hr) fun es m dQ hl h => i_Def h
theorem ok_Runner_init {cRunner : Addr} (C_as_dict : Cal P w K mg base 1 "as_dict" s_as_dict p_as_dicts (ofF xp0 x_as_dict)) (C_Runner_execute_all : CalM P w K mg base 43 cRunner "execute_all" p_Runner_execute_alls (ofF xp0 (x_Runner_execute_all cRunner 20))) (cls_Runner : Cls K cRunner) (nf_Runner_contents_seen : NoAttr K cRunner "contents_seen") (nf_Runner_entries_made : NoAttr K cRunner "entries_made") {f : Addr} {fd : FuncData} (Fu : Fun K "__init__" "Runner.__init__" s_Runner_init f fd) : FnD P w K mg base 44 f fd p_Runner_inits (ofF xp0 (x_Runner_init cRunner)) :=
  okD Fu sc_Runner_init (fun cdv A outer s H Xe hG hr => b_Runner_init C_as_dict C_Runner_execute_all cls_Runner nf_Runner_contents_seen nf_Runner_entries_made cdv A outer s H Xe hG hr) fun es m dQ hl h => i_Def h
theorem ok_trace {cRunner : Addr} (C_Runner_init : CalI P w K mg base 44 cRunner "Runner" p_Runner_inits (ofF xp0 (x_Runner_init cRunner))) (cls_Runner : Cls K cRunner) (nf_Runner_entries_made : NoAttr K cRunner "entries_made") (z_tuple : mg "tuple" = none) {f : Addr} {fd : FuncData} (Fu : Fun K "trace" "trace" s_trace f fd) : FnD P w K mg base 46 f fd p_traces (ofF xp0 (x_trace cRunner)) :=
  okD Fu sc_trace (fun cdv A outer s H Xe hG hr => b_trace C_Runner_init cls_Runner nf_Runner_entries_made z_tuple cdv A outer s H Xe hG hr) fun es m dQ hl h => i_Def h
theorem ok_law_deck (z_list : mg "list" = none) {f : Addr} {fd : FuncData} (Fu : Fun K "_law_deck" "_law_deck" s_law_deck f fd) : FnD P w K mg base 1 f fd p_law_decks (ofF xp0 x_law_deck) :=
  okD Fu sc_law_deck (fun cdv A outer s H Xe hG hr => b_law_deck z_list cdv A outer s H Xe hG hr) fun es m dQ hl h => i_Def h
theorem ok_law_draw {f : Addr} {fd : FuncData} (Fu : Fun K "_law_draw" "_law_draw" s_law_draw f fd) : FnD P w K mg base 1 f fd p_law_draws (ofF xp0 x_law_draw) :=
  okD Fu sc_law_draw (fun cdv A outer s H Xe hG hr => b_law_draw cdv A outer s H Xe hG hr) fun es m dQ hl h => i_Def h
theorem ok_law_pick (C_law_draw : Cal P w K mg base 1 "_law_draw" s_law_draw p_law_draws (ofF xp0 x_law_draw)) (z_len : mg "len" = none) {f : Addr} {fd : FuncData} (Fu : Fun K "_law_pick" "_law_pick" s_law_pick f fd) : FnD P w K mg base 2 f fd p_law_picks (ofF xp0 x_law_pick) :=
  okD Fu sc_law_pick (fun cdv A outer s H Xe hG hr => b_law_pick C_law_draw z_len cdv A outer s H Xe hG hr) fun es m dQ hl h => i_Def h
theorem ok_law_kit (C_law_draw : Cal P w K mg base 1 "_law_draw" s_law_draw p_law_draws (ofF xp0 x_law_draw)) (C_law_pick : Cal P w K mg base 2 "_law_pick" s_law_pick p_law_picks (ofF xp0 x_law_pick)) (z_range : mg "range" = none) {f : Addr} {fd : FuncData} (Fu : Fun K "_law_kit" "_law_kit" s_law_kit f fd) : FnD P w K mg base 3 f fd p_law_kits (ofF xp0 x_law_kit) :=
  okD Fu sc_law_kit (fun cdv A outer s H Xe hG hr => b_law_kit C_law_draw C_law_pick z_range cdv A outer s H Xe hG hr) fun es m dQ hl h => i_Def h
theorem ok_law_test (C_law_pick : Cal P w K mg base 2 "_law_pick" s_law_pick p_law_picks (ofF xp0 x_law_pick)) (C_law_draw : Cal P w K mg base 1 "_law_draw" s_law_draw p_law_draws (ofF xp0 x_law_draw)) (z_len : mg "len" = none) {f : Addr} {fd : FuncData} (Fu : Fun K "_law_test" "_law_test" s_law_test f fd) : FnD P w K mg base 3 f fd p_law_tests (ofF xp0 x_law_test) :=
  okD Fu sc_law_test (fun cdv A outer s H Xe hG hr => b_law_test C_law_pick C_law_draw z_len cdv A outer s H Xe hG hr) fun es m dQ hl h => i_Def h
theorem ok_law_operation (C_law_pick : Cal P w K mg base 2 "_law_pick" s_law_pick p_law_picks (ofF xp0 x_law_pick)) (C_law_draw : Cal P w K mg base 1 "_law_draw" s_law_draw p_law_draws (ofF xp0 x_law_draw)) (z_len : mg "len" = none) {f : Addr} {fd : FuncData} (Fu : Fun K "_law_operation" "_law_operation" s_law_operation f fd) : FnD P w K mg base 3 f fd p_law_operations (ofF xp0 x_law_operation) :=
  okD Fu sc_law_operation (fun cdv A outer s H Xe hG hr => b_law_operation C_law_pick C_law_draw z_len cdv A outer s H Xe hG hr) fun es m dQ hl h => i_Def h
theorem ok_law_script (C_law_draw : Cal P w K mg base 1 "_law_draw" s_law_draw p_law_draws (ofF xp0 x_law_draw)) (C_law_test : Cal P w K mg base 3 "_law_test" s_law_test p_law_tests (ofF xp0 x_law_test)) (C_law_operation : Cal P w K mg base 3 "_law_operation" s_law_operation p_law_operations (ofF xp0 x_law_operation)) (z_range : mg "range" = none) (z_tuple : mg "tuple" = none) {f : Addr} {fd : FuncData} (Fu : Fun K "_law_script" "_law_script" s_law_script f fd) (hm : mg "_law_script" = some (.ref f)) (hb : Binds K fd p_law_scripts []) : ∀ n, FnD P w K mg base (4 + n) f fd p_law_scripts (ofF xp0 (x_law_script n)) :=
  fuelD (x_law_script) rfl fun n ih => okD Fu sc_law_script (fun cdv A outer s H Xe hG hr => b_law_script C_law_draw (n := n) (r := x_law_script n) ⟨⟨f, fd, ih, hm, Fu, hb⟩⟩ C_law_test C_law_operation z_range z_tuple cdv A outer s H Xe hG hr) fun es m dQ hl h => i_Def h
theorem ok_law_disk (C_law_pick : Cal P w K mg base 2 "_law_pick" s_law_pick p_law_picks (ofF xp0 x_law_pick)) (C_law_draw : Cal P w K mg base 1 "_law_draw" s_law_draw p_law_draws (ofF xp0 x_law_draw)) (z_int : mg "int" = none) (z_set : mg "set" = none) (z_sorted : mg "sorted" = none) (z_tuple : mg "tuple" = none) {f : Addr} {fd : FuncData} (Fu : Fun K "_law_disk" "_law_disk" s_law_disk f fd) : FnD P w K mg base 3 f fd p_law_disks (ofF xp0 x_law_disk) :=
  okD Fu sc_law_disk (fun cdv A outer s H Xe hG hr => b_law_disk C_law_pick C_law_draw z_int z_set z_sorted z_tuple cdv A outer s H Xe hG hr) fun es m dQ hl h => i_Def h
theorem ok_law_make {f : Addr} {fd : FuncData} (Fu : Fun K "_law_make" "_law_make" s_law_make f fd) : FnD P w K mg base 1 f fd p_law_makes (ofF xp0 x_law_make) :=
  okD Fu sc_law_make (fun cdv A outer s H Xe hG hr => b_law_make cdv A outer s H Xe hG hr) fun es m dQ hl h => i_Def h
theorem ok_law_so {f : Addr} {fd : FuncData} (Fu : Fun K "_law_so" "_law_so" s_law_so f fd) : FnD P w K mg base 1 f fd p_law_sos (ofF xp0 x_law_so) :=
  okD Fu sc_law_so (fun cdv A outer s H Xe hG hr => b_law_so cdv A outer s H Xe hG hr) fun es m dQ hl h => i_Def h
theorem ok_law_entries (C_law_so : Cal P w K mg base 1 "_law_so" s_law_so p_law_sos (ofF xp0 x_law_so)) (C_law_make : Cal P w K mg base 1 "_law_make" s_law_make p_law_makes (ofF xp0 x_law_make)) {f : Addr} {fd : FuncData} (Fu : Fun K "_law_entries" "_law_entries" s_law_entries f fd) (hm : mg "_law_entries" = some (.ref f)) (hb : Binds K fd p_law_entriess []) : ∀ n, FnD P w K mg base (2 + n) f fd p_law_entriess (ofF xp0 (x_law_entries n)) :=
  fuelD (x_law_entries) rfl fun n ih => okD Fu sc_law_entries (fun cdv A outer s H Xe hG hr => b_law_entries (n := n) (r := x_law_entries n) ⟨⟨f, fd, ih, hm, Fu, hb⟩⟩ C_law_so C_law_make cdv A outer s H Xe hG hr) fun es m dQ hl h => i_Def h
theorem ok_law_by_hand (z_int : mg "int" = none) {f : Addr} {fd : FuncData} (Fu : Fun K "_law_by_hand" "_law_by_hand" s_law_by_hand f fd) : FnD P w K mg base 1 f fd p_law_by_hands (ofF xp0 x_law_by_hand) :=
  okD Fu sc_law_by_hand (fun cdv A outer s H Xe hG hr => b_law_by_hand z_int cdv A outer s H Xe hG hr) fun es m dQ hl h => i_Def (by rw [xq_law_by_hand] at h; exact h)
theorem ok_law {cRunner : Addr} (C_law_deck : Cal P w K mg base 1 "_law_deck" s_law_deck p_law_decks (ofF xp0 x_law_deck)) (C_law_kit : Cal P w K mg base 3 "_law_kit" s_law_kit p_law_kits (ofF xp0 x_law_kit)) (C_law_draw : Cal P w K mg base 1 "_law_draw" s_law_draw p_law_draws (ofF xp0 x_law_draw)) (C_law_script : Cal P w K mg base 24 "_law_script" s_law_script p_law_scripts (ofF xp0 (x_law_script 20))) (C_law_disk : Cal P w K mg base 3 "_law_disk" s_law_disk p_law_disks (ofF xp0 x_law_disk)) (C_law_entries : Cal P w K mg base 22 "_law_entries" s_law_entries p_law_entriess (ofF xp0 (x_law_entries 20))) (C_trace : Cal P w K mg base 46 "trace" s_trace p_traces (ofF xp0 (x_trace cRunner))) (C_law_by_hand : Cal P w K mg base 1 "_law_by_hand" s_law_by_hand p_law_by_hands (ofF xp0 x_law_by_hand)) (z_dict : mg "dict" = none) (z_list : mg "list" = none) (z_range : mg "range" = none) (z_repr : mg "repr" = none) (z_tuple : mg "tuple" = none) {f : Addr} {fd : FuncData} (Fu : Fun K "law" "law" s_law f fd) : FnD P w K mg base 47 f fd p_laws spLawD :=
  okD Fu sc_law (fun cdv A outer s H Xe hG hr => b_law C_law_deck C_law_kit C_law_draw C_law_script C_law_disk C_law_entries C_trace C_law_by_hand z_dict z_list z_range z_repr z_tuple cdv A outer s H Xe hG hr) fun es m dQ hl h => i_Def (law_to (main cRunner) h)
end
theorem all_mk {l : PySem.W.OpenLaw} {w : World} {K : PySem.W.Frag} {h : Heap} {mg : Str → Option Value} {fa f0 f1 f2 f3 f4 f5 f6 f7 f8 f9 f10 f11 f12 f13 f14 f15 f16 f17 f18 f19 f20 f21 cRunner : Addr} (X : K.In h) (G : h.Ns mainGlobals mg) (hfa : mg "law" = some (.ref fa))
    {od0 an0 od1 an1 od2 an2 od3 an3 od4 an4 od5 an5 od6 an6 od7 an7 od8 an8 od9 an9 od10 an10 od11 an11 od12 an12 od13 an13 od14 an14 od15 an15 od16 an16 od17 an17 od18 an18 od19 an19 od20 an20 od21 an21 : Option Addr} {sl0 sl1 sl2 sl3 sl4 sl5 sl6 sl7 sl8 sl9 sl10 sl11 sl12 sl13 sl14 sl15 sl16 sl17 sl18 sl19 sl20 sl21 : Array (Option Value)} {oc0 kV0 dc0 pm0 cd0 ct0 oc1 kV1 dc1 pm1 cd1 ct1 oc2 kV2 dc2 pm2 cd2 ct2 oc3 kV3 dc3 pm3 cd3 ct3 oc4 kV4 dc4 pm4 cd4 ct4 oc5 kV5 dc5 pm5 cd5 ct5 oc6 kV6 dc6 pm6 cd6 ct6 oc7 kV7 dc7 pm7 cd7 ct7 oc8 kV8 dc8 pm8 cd8 ct8 oc9 kV9 dc9 pm9 cd9 ct9 oc10 kV10 dc10 pm10 cd10 ct10 oc11 kV11 dc11 pm11 cd11 ct11 oc12 kV12 dc12 pm12 cd12 ct12 oc13 kV13 dc13 pm13 cd13 ct13 oc14 kV14 dc14 pm14 cd14 ct14 oc15 kV15 dc15 pm15 cd15 ct15 oc16 kV16 dc16 pm16 cd16 ct16 oc17 kV17 dc17 pm17 cd17 ct17 oc18 kV18 dc18 pm18 cd18 ct18 oc19 kV19 dc19 pm19 cd19 ct19 oc20 kV20 dc20 pm20 cd20 ct20 oc21 kV21 dc21 pm21 cd21 ct21 : Value} {tk_FLUSH tk_SYNC : Tok}
    (aC_Runner : PySem.W.nsIn K mainGlobals "Runner" = some (some (.ref cRunner)))
    (pg_Runner : PySem.W.plainGet K cRunner Str.empty = true)
    (hd_Runner : PySem.W.hasDictIn K cRunner = true)
    (po_Runner : PySem.W.plainOver K cRunner = true)
    (sa_Runner : PySem.W.findIn K (.ref cRunner) "__setattr__" = some (some (.builtin "object.__setattr__")))
    (mk_Runner : PySem.W.makesIn K cRunner = true)
    (kc_Runner : PySem.W.keepIn K (.ref cRunner) = true)
    (nf_Runner_contents_seen : PySem.W.findIn K (.ref cRunner) "contents_seen" = some none)
    (nf_Runner_entries_made : PySem.W.findIn K (.ref cRunner) "entries_made" = some none)
    (a0 : PySem.W.nsIn K mainGlobals "as_dict" = some (some (.ref f0)))
    (l0 : K.lookup f0 = some ⟨oc0, od0, .func (PySem.W.fnOf "as_dict" "as_dict" (defArgs s_as_dict) (defBody s_as_dict) (defScope s_as_dict) .none kV0 dc0 pm0 an0 cd0 ct0), sl0⟩)
    (c0 : PySem.W.codeIn K cd0 "as_dict" = true)
    (k0 : PySem.W.keepIn K (.ref f0) = true)
    (a1 : PySem.W.nsIn K mainGlobals "make_change" = some (some (.ref f1)))
    (l1 : K.lookup f1 = some ⟨oc1, od1, .func (PySem.W.fnOf "make_change" "make_change" (defArgs s_make_change) (defBody s_make_change) (defScope s_make_change) .none kV1 dc1 pm1 an1 cd1 ct1), sl1⟩)
    (c1 : PySem.W.codeIn K cd1 "make_change" = true)
    (k1 : PySem.W.keepIn K (.ref f1) = true)
    (a2 : PySem.W.findIn K (.ref cRunner) "is_true" = some (some (.ref f2)))
    (i2 : PySem.W.isFn K (.ref f2) = true)
    (l2 : K.lookup f2 = some ⟨oc2, od2, .func (PySem.W.fnOf "is_true" "Runner.is_true" (defArgs s_Runner_is_true) (defBody s_Runner_is_true) (defScope s_Runner_is_true) .none kV2 dc2 pm2 an2 cd2 ct2), sl2⟩)
    (c2 : PySem.W.codeIn K cd2 "Runner.is_true" = true)
    (k2 : PySem.W.keepIn K (.ref f2) = true)
    (a3 : PySem.W.findIn K (.ref cRunner) "change_of" = some (some (.ref f3)))
    (i3 : PySem.W.isFn K (.ref f3) = true)
    (l3 : K.lookup f3 = some ⟨oc3, od3, .func (PySem.W.fnOf "change_of" "Runner.change_of" (defArgs s_Runner_change_of) (defBody s_Runner_change_of) (defScope s_Runner_change_of) .none kV3 dc3 pm3 an3 cd3 ct3), sl3⟩)
    (c3 : PySem.W.codeIn K cd3 "Runner.change_of" = true)
    (k3 : PySem.W.keepIn K (.ref f3) = true)
    (a4 : PySem.W.findIn K (.ref cRunner) "execute_change" = some (some (.ref f4)))
    (i4 : PySem.W.isFn K (.ref f4) = true)
    (l4 : K.lookup f4 = some ⟨oc4, od4, .func (PySem.W.fnOf "execute_change" "Runner.execute_change" (defArgs s_Runner_execute_change) (defBody s_Runner_execute_change) (defScope s_Runner_execute_change) .none kV4 dc4 pm4 an4 cd4 ct4), sl4⟩)
    (c4 : PySem.W.codeIn K cd4 "Runner.execute_change" = true)
    (k4 : PySem.W.keepIn K (.ref f4) = true)
    (a5 : PySem.W.findIn K (.ref cRunner) "execute" = some (some (.ref f5)))
    (i5 : PySem.W.isFn K (.ref f5) = true)
    (l5 : K.lookup f5 = some ⟨oc5, od5, .func (PySem.W.fnOf "execute" "Runner.execute" (defArgs s_Runner_execute) (defBody s_Runner_execute) (defScope s_Runner_execute) .none kV5 dc5 pm5 an5 cd5 ct5), sl5⟩)
    (c5 : PySem.W.codeIn K cd5 "Runner.execute" = true)
    (k5 : PySem.W.keepIn K (.ref f5) = true)
    (a6 : PySem.W.findIn K (.ref cRunner) "execute_all" = some (some (.ref f6)))
    (i6 : PySem.W.isFn K (.ref f6) = true)
    (l6 : K.lookup f6 = some ⟨oc6, od6, .func (PySem.W.fnOf "execute_all" "Runner.execute_all" (defArgs s_Runner_execute_all) (defBody s_Runner_execute_all) (defScope s_Runner_execute_all) .none kV6 dc6 pm6 an6 cd6 ct6), sl6⟩)
    (c6 : PySem.W.codeIn K cd6 "Runner.execute_all" = true)
    (k6 : PySem.W.keepIn K (.ref f6) = true)
    (a7 : PySem.W.findIn K (.ref cRunner) "__init__" = some (some (.ref f7)))
    (i7 : PySem.W.isFn K (.ref f7) = true)
    (l7 : K.lookup f7 = some ⟨oc7, od7, .func (PySem.W.fnOf "__init__" "Runner.__init__" (defArgs s_Runner_init) (defBody s_Runner_init) (defScope s_Runner_init) .none kV7 dc7 pm7 an7 cd7 ct7), sl7⟩)
    (c7 : PySem.W.codeIn K cd7 "Runner.__init__" = true)
    (k7 : PySem.W.keepIn K (.ref f7) = true)
    (a8 : PySem.W.nsIn K mainGlobals "trace" = some (some (.ref f8)))
    (l8 : K.lookup f8 = some ⟨oc8, od8, .func (PySem.W.fnOf "trace" "trace" (defArgs s_trace) (defBody s_trace) (defScope s_trace) .none kV8 dc8 pm8 an8 cd8 ct8), sl8⟩)
    (c8 : PySem.W.codeIn K cd8 "trace" = true)
    (k8 : PySem.W.keepIn K (.ref f8) = true)
    (a9 : PySem.W.nsIn K mainGlobals "_law_deck" = some (some (.ref f9)))
    (l9 : K.lookup f9 = some ⟨oc9, od9, .func (PySem.W.fnOf "_law_deck" "_law_deck" (defArgs s_law_deck) (defBody s_law_deck) (defScope s_law_deck) .none kV9 dc9 pm9 an9 cd9 ct9), sl9⟩)
    (c9 : PySem.W.codeIn K cd9 "_law_deck" = true)
    (k9 : PySem.W.keepIn K (.ref f9) = true)
    (a10 : PySem.W.nsIn K mainGlobals "_law_draw" = some (some (.ref f10)))
    (l10 : K.lookup f10 = some ⟨oc10, od10, .func (PySem.W.fnOf "_law_draw" "_law_draw" (defArgs s_law_draw) (defBody s_law_draw) (defScope s_law_draw) .none kV10 dc10 pm10 an10 cd10 ct10), sl10⟩)
    (c10 : PySem.W.codeIn K cd10 "_law_draw" = true)
    (k10 : PySem.W.keepIn K (.ref f10) = true)
    (a11 : PySem.W.nsIn K mainGlobals "_law_pick" = some (some (.ref f11)))
    (l11 : K.lookup f11 = some ⟨oc11, od11, .func (PySem.W.fnOf "_law_pick" "_law_pick" (defArgs s_law_pick) (defBody s_law_pick) (defScope s_law_pick) .none kV11 dc11 pm11 an11 cd11 ct11), sl11⟩)
    (c11 : PySem.W.codeIn K cd11 "_law_pick" = true)
    (k11 : PySem.W.keepIn K (.ref f11) = true)
    (a12 : PySem.W.nsIn K mainGlobals "_law_kit" = some (some (.ref f12)))
    (l12 : K.lookup f12 = some ⟨oc12, od12, .func (PySem.W.fnOf "_law_kit" "_law_kit" (defArgs s_law_kit) (defBody s_law_kit) (defScope s_law_kit) .none kV12 dc12 pm12 an12 cd12 ct12), sl12⟩)
    (c12 : PySem.W.codeIn K cd12 "_law_kit" = true)
    (k12 : PySem.W.keepIn K (.ref f12) = true)
    (a13 : PySem.W.nsIn K mainGlobals "_law_test" = some (some (.ref f13)))
    (l13 : K.lookup f13 = some ⟨oc13, od13, .func (PySem.W.fnOf "_law_test" "_law_test" (defArgs s_law_test) (defBody s_law_test) (defScope s_law_test) .none kV13 dc13 pm13 an13 cd13 ct13), sl13⟩)
    (c13 : PySem.W.codeIn K cd13 "_law_test" = true)
    (k13 : PySem.W.keepIn K (.ref f13) = true)
    (a14 : PySem.W.nsIn K mainGlobals "_law_operation" = some (some (.ref f14)))
    (l14 : K.lookup f14 = some ⟨oc14, od14, .func (PySem.W.fnOf "_law_operation" "_law_operation" (defArgs s_law_operation) (defBody s_law_operation) (defScope s_law_operation) .none kV14 dc14 pm14 an14 cd14 ct14), sl14⟩)
    (c14 : PySem.W.codeIn K cd14 "_law_operation" = true)
    (k14 : PySem.W.keepIn K (.ref f14) = true)
    (a15 : PySem.W.nsIn K mainGlobals "_law_script" = some (some (.ref f15)))
    (l15 : K.lookup f15 = some ⟨oc15, od15, .func (PySem.W.fnOf "_law_script" "_law_script" (defArgs s_law_script) (defBody s_law_script) (defScope s_law_script) .none kV15 dc15 pm15 an15 cd15 ct15), sl15⟩)
    (c15 : PySem.W.codeIn K cd15 "_law_script" = true)
    (k15 : PySem.W.keepIn K (.ref f15) = true)
    (a16 : PySem.W.nsIn K mainGlobals "_law_disk" = some (some (.ref f16)))
    (l16 : K.lookup f16 = some ⟨oc16, od16, .func (PySem.W.fnOf "_law_disk" "_law_disk" (defArgs s_law_disk) (defBody s_law_disk) (defScope s_law_disk) .none kV16 dc16 pm16 an16 cd16 ct16), sl16⟩)
    (c16 : PySem.W.codeIn K cd16 "_law_disk" = true)
    (k16 : PySem.W.keepIn K (.ref f16) = true)
    (a17 : PySem.W.nsIn K mainGlobals "_law_make" = some (some (.ref f17)))
    (l17 : K.lookup f17 = some ⟨oc17, od17, .func (PySem.W.fnOf "_law_make" "_law_make" (defArgs s_law_make) (defBody s_law_make) (defScope s_law_make) .none kV17 dc17 pm17 an17 cd17 ct17), sl17⟩)
    (c17 : PySem.W.codeIn K cd17 "_law_make" = true)
    (k17 : PySem.W.keepIn K (.ref f17) = true)
    (a18 : PySem.W.nsIn K mainGlobals "_law_so" = some (some (.ref f18)))
    (l18 : K.lookup f18 = some ⟨oc18, od18, .func (PySem.W.fnOf "_law_so" "_law_so" (defArgs s_law_so) (defBody s_law_so) (defScope s_law_so) .none kV18 dc18 pm18 an18 cd18 ct18), sl18⟩)
    (c18 : PySem.W.codeIn K cd18 "_law_so" = true)
    (k18 : PySem.W.keepIn K (.ref f18) = true)
    (a19 : PySem.W.nsIn K mainGlobals "_law_entries" = some (some (.ref f19)))
    (l19 : K.lookup f19 = some ⟨oc19, od19, .func (PySem.W.fnOf "_law_entries" "_law_entries" (defArgs s_law_entries) (defBody s_law_entries) (defScope s_law_entries) .none kV19 dc19 pm19 an19 cd19 ct19), sl19⟩)
    (c19 : PySem.W.codeIn K cd19 "_law_entries" = true)
    (k19 : PySem.W.keepIn K (.ref f19) = true)
    (a20 : PySem.W.nsIn K mainGlobals "_law_by_hand" = some (some (.ref f20)))
    (l20 : K.lookup f20 = some ⟨oc20, od20, .func (PySem.W.fnOf "_law_by_hand" "_law_by_hand" (defArgs s_law_by_hand) (defBody s_law_by_hand) (defScope s_law_by_hand) .none kV20 dc20 pm20 an20 cd20 ct20), sl20⟩)
    (c20 : PySem.W.codeIn K cd20 "_law_by_hand" = true)
    (k20 : PySem.W.keepIn K (.ref f20) = true)
    (a21 : PySem.W.nsIn K mainGlobals "law" = some (some (.ref f21)))
    (l21 : K.lookup f21 = some ⟨oc21, od21, .func (PySem.W.fnOf "law" "law" (defArgs s_law) (defBody s_law) (defScope s_law) .none kV21 dc21 pm21 an21 cd21 ct21), sl21⟩)
    (c21 : PySem.W.codeIn K cd21 "law" = true)
    (k21 : PySem.W.keepIn K (.ref f21) = true)
    (y_dict : PySem.W.nsIn K mainGlobals "dict" = some none)
    (y_int : PySem.W.nsIn K mainGlobals "int" = some none)
    (y_len : PySem.W.nsIn K mainGlobals "len" = some none)
    (y_list : PySem.W.nsIn K mainGlobals "list" = some none)
    (y_range : PySem.W.nsIn K mainGlobals "range" = some none)
    (y_repr : PySem.W.nsIn K mainGlobals "repr" = some none)
    (y_set : PySem.W.nsIn K mainGlobals "set" = some none)
    (y_sorted : PySem.W.nsIn K mainGlobals "sorted" = some none)
    (y_tuple : PySem.W.nsIn K mainGlobals "tuple" = some none)
    (y_FLUSH : PySem.W.nsIn K mainGlobals "FLUSH" = some (some (.str "flush" tk_FLUSH)))
    (y_SYNC : PySem.W.nsIn K mainGlobals "SYNC" = some (some (.str "sync" tk_SYNC)))
    : ∃ fd : FuncData, (∀ (s : Shared) (u : Value), BindsTo s fd ⟨[u], []⟩ [("_law_script_here", u)]) ∧ ∀ base : Heap, K.In base → base.Ns mainGlobals mg → FnD l.prog w K mg base 47 fa fd ["_law_script_here"] spLawD := by
  have e := hfa.symm.trans (PySem.W.mg_of X G a21)
  cases e
  have F0 := fun_mk (st := s_as_dict) l0 c0 k0
  have F1 := fun_mk (st := s_make_change) l1 c1 k1
  have F2 := fun_mk (st := s_Runner_is_true) l2 c2 k2
  have F3 := fun_mk (st := s_Runner_change_of) l3 c3 k3
  have F4 := fun_mk (st := s_Runner_execute_change) l4 c4 k4
  have F5 := fun_mk (st := s_Runner_execute) l5 c5 k5
  have F6 := fun_mk (st := s_Runner_execute_all) l6 c6 k6
  have F7 := fun_mk (st := s_Runner_init) l7 c7 k7
  have F8 := fun_mk (st := s_trace) l8 c8 k8
  have F9 := fun_mk (st := s_law_deck) l9 c9 k9
  have F10 := fun_mk (st := s_law_draw) l10 c10 k10
  have F11 := fun_mk (st := s_law_pick) l11 c11 k11
  have F12 := fun_mk (st := s_law_kit) l12 c12 k12
  have F13 := fun_mk (st := s_law_test) l13 c13 k13
  have F14 := fun_mk (st := s_law_operation) l14 c14 k14
  have F15 := fun_mk (st := s_law_script) l15 c15 k15
  have F16 := fun_mk (st := s_law_disk) l16 c16 k16
  have F17 := fun_mk (st := s_law_make) l17 c17 k17
  have F18 := fun_mk (st := s_law_so) l18 c18 k18
  have F19 := fun_mk (st := s_law_entries) l19 c19 k19
  have F20 := fun_mk (st := s_law_by_hand) l20 c20 k20
  have F21 := fun_mk (st := s_law) l21 c21 k21
  have cls_Runner : Cls K cRunner := ⟨pg_Runner, hd_Runner, po_Runner, sa_Runner⟩
  have nf_Runner_contents_seen : NoAttr K cRunner "contents_seen" := nf_Runner_contents_seen
  have nf_Runner_entries_made : NoAttr K cRunner "entries_made" := nf_Runner_entries_made
  have z_dict := PySem.W.mg_none_of X G y_dict
  have z_int := PySem.W.mg_none_of X G y_int
  have z_len := PySem.W.mg_none_of X G y_len
  have z_list := PySem.W.mg_none_of X G y_list
  have z_range := PySem.W.mg_none_of X G y_range
  have z_repr := PySem.W.mg_none_of X G y_repr
  have z_set := PySem.W.mg_none_of X G y_set
  have z_sorted := PySem.W.mg_none_of X G y_sorted
  have z_tuple := PySem.W.mg_none_of X G y_tuple
  have c_FLUSH := PySem.W.mg_of X G y_FLUSH
  have c_SYNC := PySem.W.mg_of X G y_SYNC
  refine ⟨PySem.W.fnOf "law" "law" (defArgs s_law) (defBody s_law) (defScope s_law) .none kV21 dc21 pm21 an21 cd21 ct21, fun s u => ?_, fun base _ _ => ?_⟩
  rotate_left
  have B_as_dict : Binds K _ p_as_dicts [] := (F0.binds fun _ _ _ _ _ _ us hl => match us, hl with | [_], _ => rfl)
  have B_make_change : Binds K _ p_make_changes [] := (F1.binds fun _ _ _ _ _ _ us hl => match us, hl with | [_, _], _ => rfl)
  have B_Runner_is_true : Binds K _ p_Runner_is_trues [] := (F2.binds fun _ _ _ _ _ _ us hl => match us, hl with | [_, _], _ => rfl)
  have M_Runner_is_true : Meth K cRunner "is_true" f2 := ⟨a2, i2, k2⟩
  have B_Runner_change_of : Binds K _ p_Runner_change_ofs [] := (F3.binds fun _ _ _ _ _ _ us hl => match us, hl with | [_, _, _], _ => rfl)
  have M_Runner_change_of : Meth K cRunner "change_of" f3 := ⟨a3, i3, k3⟩
  have B_Runner_execute_change : Binds K _ p_Runner_execute_changes [] := (F4.binds fun _ _ _ _ _ _ us hl => match us, hl with | [_, _, _], _ => rfl)
  have M_Runner_execute_change : Meth K cRunner "execute_change" f4 := ⟨a4, i4, k4⟩
  have B_Runner_execute : Binds K _ p_Runner_executes [] := (F5.binds fun _ _ _ _ _ _ us hl => match us, hl with | [_, _], _ => rfl)
  have M_Runner_execute : Meth K cRunner "execute" f5 := ⟨a5, i5, k5⟩
  have B_Runner_execute_all : Binds K _ p_Runner_execute_alls [] := (F6.binds fun _ _ _ _ _ _ us hl => match us, hl with | [_, _], _ => rfl)
  have M_Runner_execute_all : Meth K cRunner "execute_all" f6 := ⟨a6, i6, k6⟩
  have B_Runner_init : Binds K _ p_Runner_inits [] := (F7.binds fun _ _ _ _ _ _ us hl => match us, hl with | [_, _, _], _ => rfl)
  have B_trace : Binds K _ p_traces [] := (F8.binds fun _ _ _ _ _ _ us hl => match us, hl with | [_, _], _ => rfl)
  have B_law_deck : Binds K _ p_law_decks [] := (F9.binds fun _ _ _ _ _ _ us hl => match us, hl with | [_], _ => rfl)
  have B_law_draw : Binds K _ p_law_draws [] := (F10.binds fun _ _ _ _ _ _ us hl => match us, hl with | [_, _], _ => rfl)
  have B_law_pick : Binds K _ p_law_picks [] := (F11.binds fun _ _ _ _ _ _ us hl => match us, hl with | [_, _], _ => rfl)
  have B_law_kit : Binds K _ p_law_kits [] := (F12.binds fun _ _ _ _ _ _ us hl => match us, hl with | [_, _], _ => rfl)
  have B_law_test : Binds K _ p_law_tests [] := (F13.binds fun _ _ _ _ _ _ us hl => match us, hl with | [_, _], _ => rfl)
  have B_law_operation : Binds K _ p_law_operations [] := (F14.binds fun _ _ _ _ _ _ us hl => match us, hl with | [_, _], _ => rfl)
  have B_law_script : Binds K _ p_law_scripts [] := (F15.binds fun _ _ _ _ _ _ us hl => match us, hl with | [_, _, _], _ => rfl)
  have B_law_disk : Binds K _ p_law_disks [] := (F16.binds fun _ _ _ _ _ _ us hl => match us, hl with | [_, _, _], _ => rfl)
  have B_law_make : Binds K _ p_law_makes [] := (F17.binds fun _ _ _ _ _ _ us hl => match us, hl with | [_, _], _ => rfl)
  have B_law_so : Binds K _ p_law_sos [] := (F18.binds fun _ _ _ _ _ _ us hl => match us, hl with | [_, _], _ => rfl)
  have B_law_entries : Binds K _ p_law_entriess [] := (F19.binds fun _ _ _ _ _ _ us hl => match us, hl with | [_, _], _ => rfl)
  have B_law_by_hand : Binds K _ p_law_by_hands [] := (F20.binds fun _ _ _ _ _ _ us hl => match us, hl with | [], _ => rfl)
  have B_law : Binds K _ p_laws [] := (F21.binds fun _ _ _ _ _ _ us hl => match us, hl with | [_], _ => rfl)
  have C_as_dict : Cal l.prog w K mg base 1 "as_dict" s_as_dict p_as_dicts (ofF xp0 x_as_dict) := ⟨f0, _, ok_as_dict F0, PySem.W.mg_of X G a0, F0, B_as_dict⟩
  have C_make_change : Cal l.prog w K mg base 1 "make_change" s_make_change p_make_changes (ofF xp0 x_make_change) := ⟨f1, _, ok_make_change F1, PySem.W.mg_of X G a1, F1, B_make_change⟩
  have C_Runner_is_true : CalM l.prog w K mg base 1 cRunner "is_true" p_Runner_is_trues (ofF xp0 (x_Runner_is_true cRunner)) := ⟨f2, _, ok_Runner_is_true cls_Runner nf_Runner_contents_seen F2, M_Runner_is_true, B_Runner_is_true⟩
  have C_Runner_change_of : CalM l.prog w K mg base 1 cRunner "change_of" p_Runner_change_ofs (ofF xp0 (x_Runner_change_of cRunner)) := ⟨f3, _, ok_Runner_change_of cls_Runner nf_Runner_contents_seen F3, M_Runner_change_of, B_Runner_change_of⟩
  have C_Runner_execute_change : CalM l.prog w K mg base 2 cRunner "execute_change" p_Runner_execute_changes (ofF xp0 (x_Runner_execute_change cRunner)) := ⟨f4, _, ok_Runner_execute_change C_Runner_change_of C_make_change cls_Runner nf_Runner_contents_seen nf_Runner_entries_made F4, M_Runner_execute_change, B_Runner_execute_change⟩
  have C_Runner_execute_all : CalM l.prog w K mg base 43 cRunner "execute_all" p_Runner_execute_alls (ofF xp0 (x_Runner_execute_all cRunner 20)) := ⟨f6, _, ok_Runner_execute_all C_Runner_is_true C_Runner_execute_change cls_Runner nf_Runner_entries_made c_FLUSH c_SYNC F5 B_Runner_execute M_Runner_execute F6 B_Runner_execute_all M_Runner_execute_all 20, M_Runner_execute_all, B_Runner_execute_all⟩
  have C_Runner_init : CalI l.prog w K mg base 44 cRunner "Runner" p_Runner_inits (ofF xp0 (x_Runner_init cRunner)) := ⟨f7, _, ok_Runner_init C_as_dict C_Runner_execute_all cls_Runner nf_Runner_contents_seen nf_Runner_entries_made F7, ⟨mk_Runner, a7, i7, kc_Runner⟩, B_Runner_init, PySem.W.mg_of X G aC_Runner⟩
  have C_trace : Cal l.prog w K mg base 46 "trace" s_trace p_traces (ofF xp0 (x_trace cRunner)) := ⟨f8, _, ok_trace C_Runner_init cls_Runner nf_Runner_entries_made z_tuple F8, PySem.W.mg_of X G a8, F8, B_trace⟩
  have C_law_deck : Cal l.prog w K mg base 1 "_law_deck" s_law_deck p_law_decks (ofF xp0 x_law_deck) := ⟨f9, _, ok_law_deck z_list F9, PySem.W.mg_of X G a9, F9, B_law_deck⟩
  have C_law_draw : Cal l.prog w K mg base 1 "_law_draw" s_law_draw p_law_draws (ofF xp0 x_law_draw) := ⟨f10, _, ok_law_draw F10, PySem.W.mg_of X G a10, F10, B_law_draw⟩
  have C_law_pick : Cal l.prog w K mg base 2 "_law_pick" s_law_pick p_law_picks (ofF xp0 x_law_pick) := ⟨f11, _, ok_law_pick C_law_draw z_len F11, PySem.W.mg_of X G a11, F11, B_law_pick⟩
  have C_law_kit : Cal l.prog w K mg base 3 "_law_kit" s_law_kit p_law_kits (ofF xp0 x_law_kit) := ⟨f12, _, ok_law_kit C_law_draw C_law_pick z_range F12, PySem.W.mg_of X G a12, F12, B_law_kit⟩
  have C_law_test : Cal l.prog w K mg base 3 "_law_test" s_law_test p_law_tests (ofF xp0 x_law_test) := ⟨f13, _, ok_law_test C_law_pick C_law_draw z_len F13, PySem.W.mg_of X G a13, F13, B_law_test⟩
  have C_law_operation : Cal l.prog w K mg base 3 "_law_operation" s_law_operation p_law_operations (ofF xp0 x_law_operation) := ⟨f14, _, ok_law_operation C_law_pick C_law_draw z_len F14, PySem.W.mg_of X G a14, F14, B_law_operation⟩
  have C_law_script : Cal l.prog w K mg base 24 "_law_script" s_law_script p_law_scripts (ofF xp0 (x_law_script 20)) := ⟨f15, _, ok_law_script C_law_draw C_law_test C_law_operation z_range z_tuple F15 (PySem.W.mg_of X G a15) B_law_script 20, PySem.W.mg_of X G a15, F15, B_law_script⟩
  have C_law_disk : Cal l.prog w K mg base 3 "_law_disk" s_law_disk p_law_disks (ofF xp0 x_law_disk) := ⟨f16, _, ok_law_disk C_law_pick C_law_draw z_int z_set z_sorted z_tuple F16, PySem.W.mg_of X G a16, F16, B_law_disk⟩
  have C_law_make : Cal l.prog w K mg base 1 "_law_make" s_law_make p_law_makes (ofF xp0 x_law_make) := ⟨f17, _, ok_law_make F17, PySem.W.mg_of X G a17, F17, B_law_make⟩
  have C_law_so : Cal l.prog w K mg base 1 "_law_so" s_law_so p_law_sos (ofF xp0 x_law_so) := ⟨f18, _, ok_law_so F18, PySem.W.mg_of X G a18, F18, B_law_so⟩
  have C_law_entries : Cal l.prog w K mg base 22 "_law_entries" s_law_entries p_law_entriess (ofF xp0 (x_law_entries 20)) := ⟨f19, _, ok_law_entries C_law_so C_law_make F19 (PySem.W.mg_of X G a19) B_law_entries 20, PySem.W.mg_of X G a19, F19, B_law_entries⟩
  have C_law_by_hand : Cal l.prog w K mg base 1 "_law_by_hand" s_law_by_hand p_law_by_hands (ofF xp0 x_law_by_hand) := ⟨f20, _, ok_law_by_hand z_int F20, PySem.W.mg_of X G a20, F20, B_law_by_hand⟩
  exact ok_law (P := l.prog) (w := w) (base := base) C_law_deck C_law_kit C_law_draw C_law_script C_law_disk C_law_entries C_trace C_law_by_hand z_dict z_list z_range z_repr z_tuple F21
  exact .of_eq rfl
end LL
open PySem PySem.W PyProof.Rows
set_option maxRecDepth 100000 in
set_option maxHeartbeats 0 in
theorem PySem.Challenge.cw_leftlying_k11_ifs_and_tests_holds : PySem.Challenge.rw_leftlying_k11_ifs_and_tests.Holds := by
  w_on; o_law; k_head; (case hw => w_witness2)
  k_fill
  refine DL.walkD (l := PySem.Challenge.rw_leftlying_k11_ifs_and_tests) (k := 47) (x := "_law_script_here") rfl rfl ⟨rfl, by decide, by decide⟩ (fun w h Y => PySem.W.kIn_of Y) ?F
  case F =>
    intro w mg fa h KX G hmg
    refine' LL.all_mk KX G hmg ?aC_Runner ?pg_Runner ?hd_Runner ?po_Runner ?sa_Runner ?mk_Runner ?kc_Runner ?nf_Runner_contents_seen ?nf_Runner_entries_made ?a0 ?l0 ?c0 ?k0 ?a1 ?l1 ?c1 ?k1 ?a2 ?i2 ?l2 ?c2 ?k2 ?a3 ?i3 ?l3 ?c3 ?k3 ?a4 ?i4 ?l4 ?c4 ?k4 ?a5 ?i5 ?l5 ?c5 ?k5 ?a6 ?i6 ?l6 ?c6 ?k6 ?a7 ?i7 ?l7 ?c7 ?k7 ?a8 ?l8 ?c8 ?k8 ?a9 ?l9 ?c9 ?k9 ?a10 ?l10 ?c10 ?k10 ?a11 ?l11 ?c11 ?k11 ?a12 ?l12 ?c12 ?k12 ?a13 ?l13 ?c13 ?k13 ?a14 ?l14 ?c14 ?k14 ?a15 ?l15 ?c15 ?k15 ?a16 ?l16 ?c16 ?k16 ?a17 ?l17 ?c17 ?k17 ?a18 ?l18 ?c18 ?k18 ?a19 ?l19 ?c19 ?k19 ?a20 ?l20 ?c20 ?k20 ?a21 ?l21 ?c21 ?k21 ?y_dict ?y_int ?y_len ?y_list ?y_range ?y_repr ?y_set ?y_sorted ?y_tuple ?y_FLUSH ?y_SYNC
    (case aC_Runner => k_is)
    (case pg_Runner => k_is)
    (case hd_Runner => k_is)
    (case po_Runner => k_is)
    (case sa_Runner => k_is)
    (case mk_Runner => k_is)
    (case kc_Runner => k_is)
    (case nf_Runner_contents_seen => k_is)
    (case nf_Runner_entries_made => k_is)
    (case a0 => k_is)
    (case l0 => k_is)
    (case c0 => k_is)
    (case k0 => k_is)
    (case a1 => k_is)
    (case l1 => k_is)
    (case c1 => k_is)
    (case k1 => k_is)
    (case a2 => k_is)
    (case i2 => k_is)
    (case l2 => k_is)
    (case c2 => k_is)
    (case k2 => k_is)
    (case a3 => k_is)
    (case i3 => k_is)
    (case l3 => k_is)
    (case c3 => k_is)
    (case k3 => k_is)
    (case a4 => k_is)
    (case i4 => k_is)
    (case l4 => k_is)
    (case c4 => k_is)
    (case k4 => k_is)
    (case a5 => k_is)
    (case i5 => k_is)
    (case l5 => k_is)
    (case c5 => k_is)
    (case k5 => k_is)
    (case a6 => k_is)
    (case i6 => k_is)
    (case l6 => k_is)
    (case c6 => k_is)
    (case k6 => k_is)
    (case a7 => k_is)
    (case i7 => k_is)
    (case l7 => k_is)
    (case c7 => k_is)
    (case k7 => k_is)
    (case a8 => k_is)
    (case l8 => k_is)
    (case c8 => k_is)
    (case k8 => k_is)
    (case a9 => k_is)
    (case l9 => k_is)
    (case c9 => k_is)
    (case k9 => k_is)
    (case a10 => k_is)
    (case l10 => k_is)
    (case c10 => k_is)
    (case k10 => k_is)
    (case a11 => k_is)
    (case l11 => k_is)
    (case c11 => k_is)
    (case k11 => k_is)
    (case a12 => k_is)
    (case l12 => k_is)
    (case c12 => k_is)
    (case k12 => k_is)
    (case a13 => k_is)
    (case l13 => k_is)
    (case c13 => k_is)
    (case k13 => k_is)
    (case a14 => k_is)
    (case l14 => k_is)
    (case c14 => k_is)
    (case k14 => k_is)
    (case a15 => k_is)
    (case l15 => k_is)
    (case c15 => k_is)
    (case k15 => k_is)
    (case a16 => k_is)
    (case l16 => k_is)
    (case c16 => k_is)
    (case k16 => k_is)
    (case a17 => k_is)
    (case l17 => k_is)
    (case c17 => k_is)
    (case k17 => k_is)
    (case a18 => k_is)
    (case l18 => k_is)
    (case c18 => k_is)
    (case k18 => k_is)
    (case a19 => k_is)
    (case l19 => k_is)
    (case c19 => k_is)
    (case k19 => k_is)
    (case a20 => k_is)
    (case l20 => k_is)
    (case c20 => k_is)
    (case k20 => k_is)
    (case a21 => k_is)
    (case l21 => k_is)
    (case c21 => k_is)
    (case k21 => k_is)
    (case y_dict => k_is)
    (case y_int => k_is)
    (case y_len => k_is)
    (case y_list => k_is)
    (case y_range => k_is)
    (case y_repr => k_is)
    (case y_set => k_is)
    (case y_sorted => k_is)
    (case y_tuple => k_is)
    (case y_FLUSH => k_is)
    (case y_SYNC => k_is)
