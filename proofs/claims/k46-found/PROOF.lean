import PyProof.Rows.All
import Wide.All
import OpenK.AllK
import Wide.FinOn
import HandS.ForMost
import PySem.Challenge.RW_reasonkeep_k46_rows_found
import HandS.Zip
import HandS.Wide
import HandS.IsInst
import HandS.Flow
import HandS.TupAny
import HandS.Rev
import HandS.RevRange
import HandS.More
import HandS.StrMore
import KE.KDictKeyed
import KE.KDictWalk
import HandS.Iter
import HandS.Dict
import PyProof.Rows.TupDisplay
import PyProof.DictTruth
import HandS.TupLen
import PyProof.DictMoreH
import HandS.SortInts
import HandS.List
import HandS.Text
import HandS.RaiseMore
import KE.KxText
import KE.LtSeq
import HandS.DictTup
import PyProof.ReprRoads
import PyProof.ReprBulk
import PyProof.FitsInt
import KE.KDictOf
import PyProof.DictKinds
import KE.KDictCopyH
import HandS.SortOrd
import PyProof.Rows.SortStr
import PyProof.Rows.SortKeyStr
import KE.KSortTup
import KE.KSortKey
import PyProof.TupleOfSeq
import KE.KDictSum
import HandS.SortKw
import HandS.SetFor
import KE.KDictZip
import KE.GoesEnum
import HandS.TupMul
import PyProof.MeetsDictList
import PyProof.NeKinds
import HandS.Style
import HandS.WideBits
import HandS.NoneIn
import HandS.TupSets
import HandS.NamedTupSort
import PyProof.ListRange
import PyProof.RangeFor
import HandS.RevTup
import PyProof.ListNew
import KE.DataFind
import HandS.Zip0
import HandS.Conv
set_option Elab.async false
set_option linter.all false
set_option autoImplicit false
set_option maxRecDepth 100000
set_option maxHeartbeats 4000000

namespace Dl
open PySem L2

/-! ## values and stores -/
inductive D where
  | non | bl (b : Bool) | int (i : Int) | str (x : Str) | tup (ds : List D) | fls (ds : List D) | loc (l : Nat)
instance : Inhabited D := ⟨.non⟩
inductive O where
  | lst (xs : List D) | dct (ep : Nat) (kvs : List (D × D)) | ins (c : Str) (fs : List (Str × D))
abbrev Sto := List O

/-- a frozen list: the script, or one of the module; a tuple -/
def FlsAt (K : PySem.W.Frag) (H : Hp) (a : Addr) (vs : List V) : Prop := (∃ o, H a = some (.frz o (.lst vs))) ∨ SqL K (fun _ => none) a vs
def TupAt (K : PySem.W.Frag) (H : Hp) (a : Addr) (vs : List V) : Prop := H a = some (.tup vs) ∨ SqT K (fun _ => none) a vs
theorem FlsAt.sq {K : PySem.W.Frag} {H : Hp} {a : Addr} {vs : List V} (h : FlsAt K H a vs) : SqL K H a vs := by
  rcases h with ⟨o, h⟩ | h
  · exact .inl (.inr ⟨o, h⟩)
  · rcases h with (z | ⟨_, z⟩) | z
    · cases z
    · cases z
    · exact .inr z
theorem TupAt.sq {K : PySem.W.Frag} {H : Hp} {a : Addr} {vs : List V} (h : TupAt K H a vs) : SqT K H a vs := by
  rcases h with h | h
  · exact SqT.of h
  · rcases h with (z | ⟨_, z⟩) | z
    · cases z
    · cases z
    · exact .inr z

mutual
def VR (K : PySem.W.Frag) (ρ : List Addr) (H : Hp) : D → V → Prop
  | .non, v => v = .non
  | .bl b, v => v = .bl b
  | .int i, v => v = .int i
  | .str x, v => v = .str x
  | .tup ds, v => ∃ a vs, v = .ref a ∧ TupAt K H a vs ∧ VRs K ρ H ds vs
  | .fls ds, v => ∃ a vs, v = .ref a ∧ FlsAt K H a vs ∧ VRs K ρ H ds vs
  | .loc l, v => ∃ a, ρ[l]? = some a ∧ v = .ref a
def VRs (K : PySem.W.Frag) (ρ : List Addr) (H : Hp) : List D → List V → Prop
  | [], vs => vs = []
  | d :: ds, vs => ∃ v vr, vs = v :: vr ∧ VR K ρ H d v ∧ VRs K ρ H ds vr
end

/-- a key of a dict -/
def keyOf : D → Option NestedKey
  | .non => some .none
  | .bl b => some (.num (if b then 1 else 0))
  | .int i => some (.num i)
  | .str x => some (.text x)
  | .tup ds => (keysOf ds).map .tup
  | .fls _ => none
  | .loc _ => none
where keysOf : List D → Option (List NestedKey)
  | [] => some []
  | d :: ds => match keyOf d, keysOf ds with
    | some k, some ks => some (k :: ks)
    | _, _ => none

/-- what must hold so that the world (addresses ρ of the store's objects, abstract heap H) bears the object o at a -/
def EntR (w : World) (K : PySem.W.Frag) (ρ : List Addr) (H : Hp) (p : D × D) (e : DictEntry) : Prop :=
  ∃ k kv dv, keyOf p.1 = some k ∧ k.depth ≤ 8 ∧ e.hash = k.hash w ∧ VR K ρ H p.1 kv ∧ RelV kv e.key ∧ VR K ρ H p.2 dv ∧ RelV dv e.val
def DictObj (a : Addr) (es : Array DictEntry) (ep : Nat) (h : Heap) : Prop := ∃ o, h.get? a = some o ∧ o.ExactDict ∧ o.data = .dict es ep
def OR (w : World) (K : PySem.W.Frag) (mg : Str → Option Value) (ρ : List Addr) (H : Hp) (a : Addr) : O → Prop
  | .lst xs => ∃ vs, H a = some (.lst vs) ∧ VRs K ρ H xs vs
  | .dct ep kvs => (a == sysModules) = false ∧ kvs.length ≤ sizeLine ∧ (kvs.map fun p => keyOf p.1).Nodup ∧
      ∃ es, H a = some (.ext (DictObj a es ep)) ∧ Paired (EntR w K ρ H) kvs es.toList
  | .ins c fs => ∃ C dx vfs, H a = some (.ins C dx vfs) ∧ mg c = some (.ref C) ∧ Paired (fun p q => p.1 = q.1 ∧ VR K ρ H p.2 q.2) fs vfs

/-- the world bears the store -/
structure Wd (w : World) (K : PySem.W.Frag) (mg : Str → Option Value) (ρ : List Addr) (S : Sto) (H : Hp) : Prop where
  len : ρ.length = S.length
  nodup : ρ.Nodup
  obj : ∀ (l : Nat) (a : Addr) (o : O), ρ[l]? = some a → S[l]? = some o → OR w K mg ρ H a o

/-- the world has gone on: what is not the store's stays, the store's objects keep their addresses -/
structure Ext (ρ : List Addr) (H : Hp) (ρ' : List Addr) (H' : Hp) : Prop where
  pre : ∃ more, ρ' = ρ ++ more ∧ ∀ a ∈ more, H a = none
  keep : ∀ a o, H a = some o → a ∉ ρ → H' a = some o

theorem Ext.refl (ρ : List Addr) (H : Hp) : Ext ρ H ρ H := ⟨⟨[], by simp, by simp⟩, fun _ _ h _ => h⟩
theorem Ext.get {ρ ρ' : List Addr} {H H' : Hp} (e : Ext ρ H ρ' H') {l : Nat} {a : Addr} (h : ρ[l]? = some a) : ρ'[l]? = some a := by
  obtain ⟨more, rfl, _⟩ := e.pre
  rw [List.getElem?_append_left (List.getElem?_eq_some_iff.mp h).1]
  exact h
/-- the store's objects are none of the tuples and frozen things -/
def Sep (ρ : List Addr) (H : Hp) : Prop := ∀ a ∈ ρ, ∃ o, H a = some o ∧ (∀ vs, o ≠ .tup vs) ∧ ∀ u x, o ≠ .frz u x
theorem Wd.sep {w : World} {K : PySem.W.Frag} {mg : Str → Option Value} {ρ : List Addr} {S : Sto} {H : Hp} (W : Wd w K mg ρ S H) : Sep ρ H := by
  intro a ha
  obtain ⟨l, hl, e⟩ := List.mem_iff_getElem.mp ha
  have h1 : ρ[l]? = some a := by rw [List.getElem?_eq_getElem hl, e]
  have hS : l < S.length := by rw [← W.len]; exact hl
  have h2 := W.obj l a S[l] h1 (List.getElem?_eq_getElem hS)
  cases hO : S[l] with
  | lst xs =>
    rw [hO] at h2
    obtain ⟨vs, h, _⟩ := h2
    exact ⟨_, h, (fun vs q => by cases q), (fun u x q => by cases q)⟩
  | dct ep kvs =>
    rw [hO] at h2
    obtain ⟨_, _, _, es, h, _⟩ := h2
    exact ⟨_, h, (fun vs q => by cases q), (fun u x q => by cases q)⟩
  | ins c fs =>
    rw [hO] at h2
    obtain ⟨C, dx, vfs, h, _⟩ := h2
    exact ⟨_, h, (fun vs q => by cases q), (fun u x q => by cases q)⟩
theorem Sep.tup {ρ : List Addr} {H : Hp} (s : Sep ρ H) {a : Addr} {vs : List V} (h : H a = some (.tup vs)) : a ∉ ρ := fun ha => by
  obtain ⟨o, h1, h2, _⟩ := s a ha
  rw [h] at h1
  exact h2 vs (Option.some.inj h1).symm
theorem Sep.frz {ρ : List Addr} {H : Hp} (s : Sep ρ H) {a : Addr} {u : Obj} {x : HO} (h : H a = some (.frz u x)) : a ∉ ρ := fun ha => by
  obtain ⟨o, h1, _, h2⟩ := s a ha
  rw [h] at h1
  exact h2 u x (Option.some.inj h1).symm
theorem Ext.trans {ρ ρ1 ρ2 : List Addr} {H H1 H2 : Hp} (s : Sep ρ1 H1) (a : Ext ρ H ρ1 H1) (b : Ext ρ1 H1 ρ2 H2) : Ext ρ H ρ2 H2 := by
  obtain ⟨m1, rfl, n1⟩ := a.pre
  obtain ⟨m2, rfl, n2⟩ := b.pre
  have nin : ∀ c o, H c = some o → c ∉ ρ → c ∉ ρ ++ m1 := fun c o hc hr hm => by
    rcases List.mem_append.mp hm with z | z
    · exact hr z
    · rw [n1 c z] at hc
      cases hc
  refine ⟨⟨m1 ++ m2, by rw [List.append_assoc], fun c hc => ?_⟩, fun c o hc hr => b.keep c o (a.keep c o hc hr) (nin c o hc hr)⟩
  rcases List.mem_append.mp hc with z | z
  · exact n1 c z
  · cases q : H c with
    | none => rfl
    | some o =>
      by_cases hr : c ∈ ρ
      · obtain ⟨o', h1, _⟩ := s c (List.mem_append_left _ hr)
        rw [n2 c z] at h1
        cases h1
      · have := a.keep c o q hr
        rw [n2 c z] at this
        cases this

theorem TupAt.keep {K : PySem.W.Frag} {H H' : Hp} {a : Addr} {vs : List V} (h : TupAt K H a vs) (k : H a = some (.tup vs) → H' a = some (.tup vs)) : TupAt K H' a vs := h.imp k id
theorem FlsAt.keep {K : PySem.W.Frag} {H H' : Hp} {a : Addr} {vs : List V} (h : FlsAt K H a vs) (k : ∀ o, H a = some (.frz o (.lst vs)) → H' a = some (.frz o (.lst vs))) : FlsAt K H' a vs := by
  rcases h with ⟨o, h⟩ | h
  · exact .inl ⟨o, k o h⟩
  · exact .inr h
/-- what values lean on -/
structure VX (ρ : List Addr) (H : Hp) (ρ' : List Addr) (H' : Hp) : Prop where
  get : ∀ (l : Nat) (a : Addr), ρ[l]? = some a → ρ'[l]? = some a
  tup : ∀ a vs, H a = some (.tup vs) → H' a = some (.tup vs)
  frz : ∀ a o u, H a = some (.frz o u) → H' a = some (.frz o u)
theorem Ext.vx {ρ ρ' : List Addr} {H H' : Hp} (s : Sep ρ H) (e : Ext ρ H ρ' H') : VX ρ H ρ' H' :=
  ⟨fun _ _ h => e.get h, fun a vs h => e.keep a _ h (s.tup h), fun a o u h => e.keep a _ h (s.frz h)⟩
theorem vx_upd {ρ : List Addr} {H : Hp} {a : Addr} {u : HO} {o : HO} (h : H a = some o) (h1 : ∀ vs, o ≠ .tup vs) (h2 : ∀ x y, o ≠ .frz x y) : VX ρ H ρ (upd H a u) :=
  ⟨fun _ _ h => h, fun b vs e => by
    rw [upd_ne (ne_of e h (fun z => h1 vs z.symm))]
    exact e, fun b x y e => by
    rw [upd_ne (ne_of e h (fun z => h2 x y z.symm))]
    exact e⟩
mutual
theorem VR.vx {K : PySem.W.Frag} {ρ ρ' : List Addr} {H H' : Hp} (e : VX ρ H ρ' H') : ∀ (d : D) (v : V), VR K ρ H d v → VR K ρ' H' d v
  | .non, v, h => by unfold VR at h ⊢; exact h
  | .bl b, v, h => by unfold VR at h ⊢; exact h
  | .int i, v, h => by unfold VR at h ⊢; exact h
  | .str x, v, h => by unfold VR at h ⊢; exact h
  | .tup ds, v, h => by
    unfold VR at h ⊢
    obtain ⟨a, vs, h1, h2, h3⟩ := h
    exact ⟨a, vs, h1, h2.keep fun q => e.tup a _ q, VRs.vx e ds vs h3⟩
  | .fls ds, v, h => by
    unfold VR at h ⊢
    obtain ⟨a, vs, h1, h2, h3⟩ := h
    exact ⟨a, vs, h1, h2.keep fun o q => e.frz a _ _ q, VRs.vx e ds vs h3⟩
  | .loc l, v, h => by
    unfold VR at h ⊢
    obtain ⟨a, h1, h2⟩ := h
    exact ⟨a, e.get _ _ h1, h2⟩
theorem VRs.vx {K : PySem.W.Frag} {ρ ρ' : List Addr} {H H' : Hp} (e : VX ρ H ρ' H') : ∀ (ds : List D) (vs : List V), VRs K ρ H ds vs → VRs K ρ' H' ds vs
  | [], vs, h => by unfold VRs at h ⊢; exact h
  | d :: ds, vs, h => by
    unfold VRs at h ⊢
    obtain ⟨v, vr, h1, h2, h3⟩ := h
    exact ⟨v, vr, h1, VR.vx e d v h2, VRs.vx e ds vr h3⟩
end
theorem VR.ext {K : PySem.W.Frag} {ρ ρ' : List Addr} {H H' : Hp} (s : Sep ρ H) (e : Ext ρ H ρ' H') (d : D) (v : V) (h : VR K ρ H d v) : VR K ρ' H' d v := VR.vx (e.vx s) d v h
theorem VRs.ext {K : PySem.W.Frag} {ρ ρ' : List Addr} {H H' : Hp} (s : Sep ρ H) (e : Ext ρ H ρ' H') (ds : List D) (vs : List V) (h : VRs K ρ H ds vs) : VRs K ρ' H' ds vs := VRs.vx (e.vx s) ds vs h

theorem VRs.nil {K : PySem.W.Frag} {ρ : List Addr} {H : Hp} : VRs K ρ H [] [] := by unfold VRs; rfl
theorem VRs.cons {K : PySem.W.Frag} {ρ : List Addr} {H : Hp} {d : D} {ds : List D} {v : V} {vs : List V} (h : VR K ρ H d v) (t : VRs K ρ H ds vs) : VRs K ρ H (d :: ds) (v :: vs) := by
  unfold VRs
  exact ⟨v, vs, rfl, h, t⟩
theorem VRs.length {K : PySem.W.Frag} {ρ : List Addr} {H : Hp} : ∀ {ds : List D} {vs : List V}, VRs K ρ H ds vs → vs.length = ds.length
  | [], vs, h => by unfold VRs at h; subst h; rfl
  | d :: ds, vs, h => by
    unfold VRs at h
    obtain ⟨v, vr, rfl, _, h3⟩ := h
    simp [VRs.length h3]
theorem VRs.get {K : PySem.W.Frag} {ρ : List Addr} {H : Hp} : ∀ {ds : List D} {vs : List V} {i : Nat} {d : D}, VRs K ρ H ds vs → ds[i]? = some d → ∃ v, vs[i]? = some v ∧ VR K ρ H d v
  | [], _, _, _, _, e => by simp at e
  | d :: ds, vs, i, x, h, e => by
    unfold VRs at h
    obtain ⟨v, vr, rfl, h2, h3⟩ := h
    cases i with
    | zero =>
      simp at e
      subst e
      exact ⟨v, rfl, h2⟩
    | succ i =>
      obtain ⟨v', h4, h5⟩ := VRs.get (i := i) (d := x) h3 (by simpa using e)
      exact ⟨v', by simpa using h4, h5⟩
theorem VRs.append {K : PySem.W.Frag} {ρ : List Addr} {H : Hp} : ∀ {ds es : List D} {vs us : List V}, VRs K ρ H ds vs → VRs K ρ H es us → VRs K ρ H (ds ++ es) (vs ++ us)
  | [], _, _, _, h, t => by
    unfold VRs at h
    subst h
    exact t
  | d :: ds, es, vs, us, h, t => by
    unfold VRs at h
    obtain ⟨v, vr, rfl, h2, h3⟩ := h
    exact VRs.cons h2 (VRs.append h3 t)
theorem VRs.snoc {K : PySem.W.Frag} {ρ : List Addr} {H : Hp} {ds : List D} {d : D} {vs : List V} {v : V} (h : VRs K ρ H ds vs) (t : VR K ρ H d v) : VRs K ρ H (ds ++ [d]) (vs ++ [v]) := h.append (.cons t .nil)
theorem VRs.drop {K : PySem.W.Frag} {ρ : List Addr} {H : Hp} : ∀ {ds : List D} {vs : List V} (n : Nat), VRs K ρ H ds vs → VRs K ρ H (ds.drop n) (vs.drop n)
  | _, _, 0, h => h
  | [], vs, n + 1, h => by
    unfold VRs at h
    subst h
    exact VRs.nil
  | d :: ds, vs, n + 1, h => by
    unfold VRs at h
    obtain ⟨v, vr, rfl, h2, h3⟩ := h
    exact VRs.drop n h3
theorem VRs.take {K : PySem.W.Frag} {ρ : List Addr} {H : Hp} : ∀ {ds : List D} {vs : List V} (n : Nat), VRs K ρ H ds vs → VRs K ρ H (ds.take n) (vs.take n)
  | _, _, 0, h => VRs.nil
  | [], vs, n + 1, h => by
    unfold VRs at h
    subst h
    exact VRs.nil
  | d :: ds, vs, n + 1, h => by
    unfold VRs at h
    obtain ⟨v, vr, rfl, h2, h3⟩ := h
    exact VRs.cons h2 (VRs.take n h3)
theorem VRs.set {K : PySem.W.Frag} {ρ : List Addr} {H : Hp} {d : D} {v : V} (r : VR K ρ H d v) : ∀ {ds : List D} {vs : List V} (n : Nat), VRs K ρ H ds vs → VRs K ρ H (ds.set n d) (vs.set n v)
  | [], vs, n, h => by
    unfold VRs at h
    subst h
    exact VRs.nil
  | d :: ds, vs, 0, h => by
    unfold VRs at h
    obtain ⟨v, vr, rfl, h2, h3⟩ := h
    exact VRs.cons r h3
  | d :: ds, vs, n + 1, h => by
    unfold VRs at h
    obtain ⟨v, vr, rfl, h2, h3⟩ := h
    exact VRs.cons h2 (VRs.set r n h3)

theorem EntR.vx {w : World} {K : PySem.W.Frag} {ρ ρ' : List Addr} {H H' : Hp} (x : VX ρ H ρ' H') {p : D × D} {e : DictEntry} (h : EntR w K ρ H p e) : EntR w K ρ' H' p e := by
  obtain ⟨k, kv, dv, h1, h2, h3, h4, h5, h6, h7⟩ := h
  exact ⟨k, kv, dv, h1, h2, h3, VR.vx x _ _ h4, h5, VR.vx x _ _ h6, h7⟩
theorem OR.vx {w : World} {K : PySem.W.Frag} {mg : Str → Option Value} {ρ ρ' : List Addr} {H H' : Hp} {a : Addr} {o : O} (x : VX ρ H ρ' H') (k : ∀ u, H a = some u → H' a = some u) (h : OR w K mg ρ H a o) : OR w K mg ρ' H' a o := by
  cases o with
  | lst xs =>
    obtain ⟨vs, h1, h2⟩ := h
    exact ⟨vs, k _ h1, VRs.vx x _ _ h2⟩
  | dct ep kvs =>
    obtain ⟨h1, h2, h3, es, h4, h5⟩ := h
    exact ⟨h1, h2, h3, es, k _ h4, Paired.mapP h5 fun p q z => z.vx x⟩
  | ins c fs =>
    obtain ⟨C, dx, vfs, h1, h2, h3⟩ := h
    exact ⟨C, dx, vfs, k _ h1, h2, Paired.mapP h3 fun p q z => ⟨z.1, VR.vx x _ _ z.2⟩⟩
theorem OR.ext {w : World} {K : PySem.W.Frag} {mg : Str → Option Value} {ρ ρ' : List Addr} {H H' : Hp} {a : Addr} {o : O} (s : Sep ρ H) (x : Ext ρ H ρ' H') (k : ∀ u, H a = some u → H' a = some u) (h : OR w K mg ρ H a o) : OR w K mg ρ' H' a o := h.vx (x.vx s) k

section
variable {w : World} {K : PySem.W.Frag} {mg : Str → Option Value} {ρ ρ' : List Addr} {S : Sto} {H H' : Hp} {a p : Addr} {l : Nat}
theorem Wd.tracked (W : Wd w K mg ρ S H) (h : ρ[l]? = some a) : ∃ o, S[l]? = some o ∧ OR w K mg ρ H a o ∧ ∃ u, H a = some u := by
  have hl : l < S.length := by
    rw [← W.len]
    exact (List.getElem?_eq_some_iff.mp h).1
  have h2 := W.obj l a S[l] h (List.getElem?_eq_getElem hl)
  obtain ⟨u, hu, _⟩ := W.sep a (List.mem_of_getElem? h)
  exact ⟨_, List.getElem?_eq_getElem hl, h2, u, hu⟩
theorem Wd.at (W : Wd w K mg ρ S H) {o : O} (h : S[l]? = some o) : ∃ a, ρ[l]? = some a ∧ OR w K mg ρ H a o := by
  have hl : l < ρ.length := by
    rw [W.len]
    exact (List.getElem?_eq_some_iff.mp h).1
  exact ⟨_, List.getElem?_eq_getElem hl, W.obj _ _ _ (List.getElem?_eq_getElem hl) h⟩
theorem Wd.notin (W : Wd w K mg ρ S H) (h : H p = none) : p ∉ ρ := fun hp => by
  obtain ⟨u, hu, _⟩ := W.sep p hp
  rw [h] at hu
  cases hu
/-- all that was tracked is kept -/
theorem ext_same (k : ∀ b o, H b = some o → H' b = some o) : Ext ρ H ρ H' := ⟨⟨[], by simp, by simp⟩, fun b o h _ => k b o h⟩
theorem keep_upd {u : HO} (h : H p = none) : ∀ b o, H b = some o → upd H p u b = some o := fun b o e => by
  rw [upd_ne (ne_of_none e h)]
  exact e
theorem ext_new {u : HO} (h : H p = none) : Ext ρ H ρ (upd H p u) := ext_same (keep_upd h)
theorem Wd.same (W : Wd w K mg ρ S H) (k : ∀ b o, H b = some o → H' b = some o) : Wd w K mg ρ S H' :=
  ⟨W.len, W.nodup, fun l a o h1 h2 => (W.obj l a o h1 h2).ext W.sep (ext_same k) fun u q => k a u q⟩
theorem Wd.laid {u : HO} (W : Wd w K mg ρ S H) (h : H p = none) : Wd w K mg ρ S (upd H p u) := W.same (keep_upd h)
theorem ext_alloc {u : HO} (h : H p = none) : Ext ρ H (ρ ++ [p]) (upd H p u) :=
  ⟨⟨[p], rfl, fun c hc => by
    have e : c = p := by simpa using hc
    rw [e, h]⟩, fun b o e _ => keep_upd h b o e⟩
/-- a new object of the store -/
theorem Wd.alloc {u : HO} {o : O} (W : Wd w K mg ρ S H) (h : H p = none) (new : OR w K mg (ρ ++ [p]) (upd H p u) p o) : Wd w K mg (ρ ++ [p]) (S ++ [o]) (upd H p u) := by
  refine ⟨by simp [W.len], ?_, fun l a o' h1 h2 => ?_⟩
  · rw [List.nodup_append]
    refine ⟨W.nodup, by simp, fun x hx y hy e => ?_⟩
    have e2 : y = p := by simpa using hy
    rw [e, e2] at hx
    exact W.notin h hx
  · rcases Nat.lt_trichotomy l ρ.length with q | q | q
    · rw [List.getElem?_append_left q] at h1
      rw [List.getElem?_append_left (by rw [← W.len]; exact q)] at h2
      exact (W.obj l a o' h1 h2).ext W.sep (ext_alloc h) fun v hv => keep_upd h a v hv
    · subst q
      rw [List.getElem?_concat_length] at h1
      rw [W.len, List.getElem?_concat_length] at h2
      cases h1
      cases h2
      exact new
    · rw [List.getElem?_eq_none (by simp; omega)] at h1
      cases h1
theorem ext_write {u : HO} (h : a ∈ ρ) : Ext ρ H ρ (upd H a u) :=
  ⟨⟨[], by simp, by simp⟩, fun b o e n => by
    have ne : b ≠ a := fun z => n (z ▸ h)
    rw [upd_ne ne]
    exact e⟩
/-- an object of the store is changed -/
theorem Wd.write {u : HO} {o : O} (W : Wd w K mg ρ S H) (h : ρ[l]? = some a) (new : OR w K mg ρ (upd H a u) a o) : Wd w K mg ρ (S.set l o) (upd H a u) := by
  have ha : a ∈ ρ := List.mem_of_getElem? h
  refine ⟨by simp [W.len], W.nodup, fun j b o' h1 h2 => ?_⟩
  by_cases hj : l = j
  · subst hj
    rw [h] at h1
    cases h1
    have hl : l < S.length := by
      rw [← W.len]
      exact (List.getElem?_eq_some_iff.mp h).1
    rw [List.getElem?_set_self hl] at h2
    cases h2
    exact new
  · rw [List.getElem?_set_ne hj] at h2
    have ne : b ≠ a := fun z => by
      subst z
      have i1 := (List.getElem?_eq_some_iff.mp h)
      have i2 := (List.getElem?_eq_some_iff.mp h1)
      obtain ⟨p1, q1⟩ := i1
      obtain ⟨p2, q2⟩ := i2
      exact hj ((List.getElem_inj W.nodup).mp (q1.trans q2.symm))
    exact (W.obj j b o' h1 h2).ext W.sep (ext_write ha) fun v hv => by
      rw [upd_ne ne]
      exact hv
/-- what is not the store's is changed (no tuple, no frozen thing) -/
theorem Wd.aside {u o : HO} (W : Wd w K mg ρ S H) (hp : p ∉ ρ) (h : H p = some o) (h1 : ∀ vs, o ≠ .tup vs) (h2 : ∀ x y, o ≠ .frz x y) : Wd w K mg ρ S (upd H p u) :=
  ⟨W.len, W.nodup, fun l a o' q1 q2 => (W.obj l a o' q1 q2).vx (vx_upd h h1 h2) fun v hv => by
    rw [upd_ne (fun z => hp (by rw [← z]; exact List.mem_of_getElem? q1))]
    exact hv⟩
/-- an object that stands becomes the store's -/
theorem Wd.adopt {o : O} (W : Wd w K mg ρ S H) (hp : p ∉ ρ) (new : OR w K mg (ρ ++ [p]) H p o) : Wd w K mg (ρ ++ [p]) (S ++ [o]) H := by
  have vx : VX ρ H (ρ ++ [p]) H := ⟨fun l a h => by
    rw [List.getElem?_append_left (List.getElem?_eq_some_iff.mp h).1]
    exact h, fun _ _ h => h, fun _ _ _ h => h⟩
  refine ⟨by simp [W.len], ?_, fun l a o' h1 h2 => ?_⟩
  · rw [List.nodup_append]
    refine ⟨W.nodup, by simp, fun x hx y hy e => ?_⟩
    have e2 : y = p := by simpa using hy
    rw [e, e2] at hx
    exact hp hx
  · rcases Nat.lt_trichotomy l ρ.length with q | q | q
    · rw [List.getElem?_append_left q] at h1
      rw [List.getElem?_append_left (by rw [← W.len]; exact q)] at h2
      exact (W.obj l a o' h1 h2).vx vx fun v hv => hv
    · subst q
      rw [List.getElem?_concat_length] at h1
      rw [W.len, List.getElem?_concat_length] at h2
      cases h1
      cases h2
      exact new
    · rw [List.getElem?_eq_none (by simp; omega)] at h1
      cases h1
end
end Dl

namespace Dl
open PySem L2

/-! ## judgements: a piece of syntax and its predicate transformer over (slots, store) -/
abbrev DEnv := List (Option D)
abbrev DQ := D → Sto → Prop
abbrev WE := DEnv → Sto → DQ → Prop
abbrev WT := DEnv → Sto → (Bool → Sto → Prop) → Prop
abbrev WA := DEnv → Sto → (List D → Sto → Prop) → Prop
structure DEnds where
  nx : DEnv → Sto → Prop
  rt : DQ
  bk : DEnv → Sto → Prop := fun _ _ => False
  ct : DEnv → Sto → Prop := fun _ _ => False
abbrev WS := DEnds → DEnv → Sto → Prop
abbrev DSp := List D → Sto → DQ → Prop

def ER (K : PySem.W.Frag) (ρ : List Addr) (H : Hp) (τ : DEnv) (σ : St) : Prop := σ.length = τ.length ∧ ∀ (i : Nat) (d : D), τ[i]? = some (some d) → ∃ v, σ[i]? = some (some v) ∧ VR K ρ H d v
theorem ER.ext {K : PySem.W.Frag} {ρ ρ' : List Addr} {H H' : Hp} {τ : DEnv} {σ : St} (e : ER K ρ H τ σ) (s : Sep ρ H) (x : Ext ρ H ρ' H') : ER K ρ' H' τ σ :=
  ⟨e.1, fun i d h => let ⟨v, h1, h2⟩ := e.2 i d h; ⟨v, h1, h2.ext s x⟩⟩
theorem ER.set {K : PySem.W.Frag} {ρ : List Addr} {H : Hp} {τ : DEnv} {σ : St} {i : Nat} {d : D} {v : V} (e : ER K ρ H τ σ) (r : VR K ρ H d v) : ER K ρ H (τ.set i (some d)) (σ.set i (some v)) := by
  refine ⟨by simp [e.1], fun j c h => ?_⟩
  by_cases hj : i = j
  · subst hj
    have hl : i < τ.length := by
      have := (List.getElem?_eq_some_iff.mp h).1
      simpa using this
    rw [List.getElem?_set_self hl] at h
    cases h
    exact ⟨v, by rw [List.getElem?_set_self (by rw [e.1]; exact hl)], r⟩
  · rw [List.getElem?_set_ne hj] at h ⊢
    exact e.2 j c h

section
variable (X : Cx)
abbrev XW (ρ : List Addr) (S : Sto) (H : Hp) : Prop := Wd X.w X.K X.mg ρ S H
/-- what is wanted of a value and a store gives what is wanted of V and the heap -/
def PassE (ρ : List Addr) (H : Hp) (R : DQ) (Q : VK) : Prop := ∀ d S', R d S' → ∀ ρ' H' v, Ext ρ H ρ' H' → XW X ρ' S' H' → VR X.K ρ' H' d v → Q v H'
def PassT (ρ : List Addr) (H : Hp) (R : Bool → Sto → Prop) (Q : Bool → Hp → Prop) : Prop := ∀ b S', R b S' → ∀ ρ' H', Ext ρ H ρ' H' → XW X ρ' S' H' → Q b H'
def PassA (ρ : List Addr) (H : Hp) (R : List D → Sto → Prop) (Q : List V → Hp → Prop) : Prop := ∀ ds S', R ds S' → ∀ ρ' H' vs, Ext ρ H ρ' H' → XW X ρ' S' H' → VRs X.K ρ' H' ds vs → Q vs H'
def PassN (ρ : List Addr) (H : Hp) (R : DEnv → Sto → Prop) (Q : St → Hp → Prop) : Prop := ∀ τ S', R τ S' → ∀ ρ' H' σ, Ext ρ H ρ' H' → XW X ρ' S' H' → ER X.K ρ' H' τ σ → Q σ H'
def dE (w : WE) : TE := fun σ H Q => ∃ ρ τ S R, XW X ρ S H ∧ ER X.K ρ H τ σ ∧ w τ S R ∧ PassE X ρ H R Q
def dT (w : WT) : TT := fun σ H Q => ∃ ρ τ S R, XW X ρ S H ∧ ER X.K ρ H τ σ ∧ w τ S R ∧ PassT X ρ H R Q
def dA (w : WA) : TA := fun σ H Q => ∃ ρ τ S R, XW X ρ S H ∧ ER X.K ρ H τ σ ∧ w τ S R ∧ PassA X ρ H R Q
def dS (w : WS) : TS := fun D σ H => ∃ ρ τ S R, XW X ρ S H ∧ ER X.K ρ H τ σ ∧ w R τ S ∧ PassN X ρ H R.nx D.nx ∧ PassE X ρ H R.rt D.rt ∧ PassN X ρ H R.bk D.bk ∧ PassN X ρ H R.ct D.ct
end
section
variable {X : Cx} {ρ ρ' : List Addr} {H H' : Hp} {S' : Sto}
theorem PassE.ext {R : DQ} {Q : VK} (p : PassE X ρ H R Q) (W : XW X ρ' S' H') (x : Ext ρ H ρ' H') : PassE X ρ' H' R Q := fun d S2 hR ρ2 H2 v x2 => p d S2 hR ρ2 H2 v (x.trans W.sep x2)
theorem PassT.ext {R : Bool → Sto → Prop} {Q : Bool → Hp → Prop} (p : PassT X ρ H R Q) (W : XW X ρ' S' H') (x : Ext ρ H ρ' H') : PassT X ρ' H' R Q := fun d S2 hR ρ2 H2 x2 => p d S2 hR ρ2 H2 (x.trans W.sep x2)
theorem PassA.ext {R : List D → Sto → Prop} {Q : List V → Hp → Prop} (p : PassA X ρ H R Q) (W : XW X ρ' S' H') (x : Ext ρ H ρ' H') : PassA X ρ' H' R Q := fun d S2 hR ρ2 H2 v x2 => p d S2 hR ρ2 H2 v (x.trans W.sep x2)
theorem PassN.ext {R : DEnv → Sto → Prop} {Q : St → Hp → Prop} (p : PassN X ρ H R Q) (W : XW X ρ' S' H') (x : Ext ρ H ρ' H') : PassN X ρ' H' R Q := fun d S2 hR ρ2 H2 v x2 => p d S2 hR ρ2 H2 v (x.trans W.sep x2)
end
section
variable {X : Cx} {e : Expr} {st : Stmt} {sts : List Stmt} {es : List Expr}
theorem PE.imp {t t' : TE} (h : PE X e t) (k : ∀ σ H Q, t' σ H Q → t σ H Q) : PE X e t' := ⟨fun pins s σ H Q I q => h.run pins s σ H Q I (k σ H Q q)⟩
theorem PT.imp {t t' : TT} (h : PT X e t) (k : ∀ σ H Q, t' σ H Q → t σ H Q) : PT X e t' := ⟨fun pins s σ H Q I q => h.run pins s σ H Q I (k σ H Q q)⟩
theorem PW.imp {t t' : TT} (h : PW X e t) (k : ∀ σ H Q, t' σ H Q → t σ H Q) : PW X e t' := ⟨fun wh pins s σ H Q I q => h.run wh pins s σ H Q I (k σ H Q q)⟩
theorem PA.imp {t t' : TA} (h : PA X es t) (k : ∀ σ H Q, t' σ H Q → t σ H Q) : PA X es t' := ⟨fun p pins s σ H Q I q => h.run p pins s σ H Q I (k σ H Q q)⟩
theorem PS.imp {t t' : TS} (h : PS X st t) (k : ∀ D σ H, t' D σ H → t D σ H) : PS X st t' := ⟨fun pins s σ H D I q => h.run pins s σ H D I (k D σ H q)⟩
theorem PSs.imp {t t' : TS} (h : PSs X sts t) (k : ∀ D σ H, t' D σ H → t D σ H) : PSs X sts t' := ⟨fun pins s σ H D I q => h.run pins s σ H D I (k D σ H q)⟩
end

/-! ### names, constants -/
def wVar (i : Nat) : WE := fun τ S R => ∃ d, τ[i]? = some (some d) ∧ R d S
def wC (d : D) : WE := fun _ S R => R d S
theorem VR.int {K : PySem.W.Frag} {ρ : List Addr} {H : Hp} {i : Int} : VR K ρ H (.int i) (.int i) := by unfold VR; rfl
theorem VR.bl {K : PySem.W.Frag} {ρ : List Addr} {H : Hp} {i : Bool} : VR K ρ H (.bl i) (.bl i) := by unfold VR; rfl
theorem VR.str {K : PySem.W.Frag} {ρ : List Addr} {H : Hp} {x : Str} : VR K ρ H (.str x) (.str x) := by unfold VR; rfl
theorem VR.non {K : PySem.W.Frag} {ρ : List Addr} {H : Hp} : VR K ρ H .non .non := by unfold VR; rfl
theorem VR.int_of {K : PySem.W.Frag} {ρ : List Addr} {H : Hp} {i : Int} {v : V} (h : VR K ρ H (.int i) v) : v = .int i := by unfold VR at h; exact h
theorem VR.bl_of {K : PySem.W.Frag} {ρ : List Addr} {H : Hp} {i : Bool} {v : V} (h : VR K ρ H (.bl i) v) : v = .bl i := by unfold VR at h; exact h
theorem VR.str_of {K : PySem.W.Frag} {ρ : List Addr} {H : Hp} {x : Str} {v : V} (h : VR K ρ H (.str x) v) : v = .str x := by unfold VR at h; exact h
theorem VR.non_of {K : PySem.W.Frag} {ρ : List Addr} {H : Hp} {v : V} (h : VR K ρ H .non v) : v = .non := by unfold VR at h; exact h
theorem VR.tup_of {K : PySem.W.Frag} {ρ : List Addr} {H : Hp} {ds : List D} {v : V} (h : VR K ρ H (.tup ds) v) : ∃ a vs, v = .ref a ∧ TupAt K H a vs ∧ VRs K ρ H ds vs := by unfold VR at h; exact h
theorem VR.fls_of {K : PySem.W.Frag} {ρ : List Addr} {H : Hp} {ds : List D} {v : V} (h : VR K ρ H (.fls ds) v) : ∃ a vs, v = .ref a ∧ FlsAt K H a vs ∧ VRs K ρ H ds vs := by unfold VR at h; exact h
theorem VR.loc_of {K : PySem.W.Frag} {ρ : List Addr} {H : Hp} {l : Nat} {v : V} (h : VR K ρ H (.loc l) v) : ∃ a, ρ[l]? = some a ∧ v = .ref a := by unfold VR at h; exact h
theorem VR.tup {K : PySem.W.Frag} {ρ : List Addr} {H : Hp} {ds : List D} {a : Addr} {vs : List V} (h : TupAt K H a vs) (r : VRs K ρ H ds vs) : VR K ρ H (.tup ds) (.ref a) := by unfold VR; exact ⟨a, vs, rfl, h, r⟩
theorem VR.fls {K : PySem.W.Frag} {ρ : List Addr} {H : Hp} {ds : List D} {a : Addr} {vs : List V} (h : FlsAt K H a vs) (r : VRs K ρ H ds vs) : VR K ρ H (.fls ds) (.ref a) := by unfold VR; exact ⟨a, vs, rfl, h, r⟩
theorem VR.loc {K : PySem.W.Frag} {ρ : List Addr} {H : Hp} {l : Nat} {a : Addr} (h : ρ[l]? = some a) : VR K ρ H (.loc l) (.ref a) := by unfold VR; exact ⟨a, h, rfl⟩

section
variable {X : Cx} {pos : Pos} {j : Nat}
theorem de_of_var {e : Expr} {i : Nat} (h : PE X e (tVar i)) : PE X e (dE X (wVar i)) := PE.imp h fun σ H Q ⟨ρ, τ, S, R, W, er, ⟨d, h1, h2⟩, p⟩ =>
  let ⟨v, h3, h4⟩ := er.2 i d h1
  ⟨v, h3, p d S h2 ρ H v (Ext.refl _ _) W h4⟩
theorem de_of_C {e : Expr} {v : V} {d : D} (h : PE X e (tC v)) (r : ∀ ρ H, VR X.K ρ H d v) : PE X e (dE X (wC d)) := PE.imp h fun σ H Q ⟨ρ, τ, S, R, W, er, h2, p⟩ => p d S h2 ρ H v (Ext.refl _ _) W (r ρ H)
theorem de_var (i : Nat) {x : Str} (hN : X.N[i]? = some x := by rfl) (hv : Vis X.env.scope x := by first | exact Or.inl rfl | exact Or.inr (Or.inl rfl) | exact Or.inr (Or.inr rfl)) (hd : (x == ("__debug__" : Str)) = false := by decide)
    (hcd : (x == ("__classdict__" : Str)) = false := by decide) : PE X (.Name x pos) (dE X (wVar i)) := de_of_var (pe_var hN hv hd hcd)
theorem de_int {i : Int} : PE X (.Constant (.int i) j pos) (dE X (wC (.int i))) := de_of_C pe_int fun _ _ => .int
theorem de_bl {b : Bool} : PE X (.Constant (.bool b) j pos) (dE X (wC (.bl b))) := de_of_C pe_bl fun _ _ => .bl
theorem de_str {x : Str} : PE X (.Constant (.str x) j pos) (dE X (wC (.str x))) := de_of_C pe_str fun _ _ => .str
theorem de_non : PE X (.Constant .none j pos) (dE X (wC .non)) := de_of_C pe_non fun _ _ => .non
/-- a constant of the module -/
def GlbD (mg : Str → Option Value) (x : Str) : D → Prop
  | .int i => ∃ t, mg x = some (.int i t)
  | .str z => ∃ t, mg x = some (.str z t)
  | _ => False
theorem de_glb {x : Str} {d : D} (hg : Gl X x) (h : GlbD X.mg x d) (hd : (x == ("__debug__" : Str)) = false := by decide) : PE X (.Name x pos) (dE X (wC d)) := by
  cases d with
  | int i =>
    obtain ⟨t, h⟩ := h
    exact de_of_C (pe_glob (v := .int i) hg h ⟨t, rfl⟩ hd) fun _ _ => .int
  | str z =>
    obtain ⟨t, h⟩ := h
    exact de_of_C (pe_glob (v := .str z) hg h ⟨t, rfl⟩ hd) fun _ _ => .str
  | non => exact h.elim
  | bl _ => exact h.elim
  | tup _ => exact h.elim
  | fls _ => exact h.elim
  | loc _ => exact h.elim
end

/-! ### operators, by values -/
abbrev DOp := D → D → Sto → DQ → Prop
def rD (X : Cx) (op : DOp) : R2 := fun x y H Q => ∃ ρ S d1 d2 R, XW X ρ S H ∧ VR X.K ρ H d1 x ∧ VR X.K ρ H d2 y ∧ op d1 d2 S R ∧ PassE X ρ H R Q
theorem OpR.imp {X : Cx} {f : Value → Value → Sem Value} {r r' : R2} (h : OpR X f r) (k : ∀ x y H Q, r' x y H Q → r x y H Q) : OpR X f r' := fun pins s σ H x y v u Q I rx ry q => h pins s σ H x y v u Q I rx ry (k x y H Q q)
/-- two rules for one operator -/
def opOr (o o' : DOp) : DOp := fun a b S R => o a b S R ∨ o' a b S R
theorem OpD.or {X : Cx} {f : Value → Value → Sem Value} {o o' : DOp} (h : OpR X f (rD X o)) (h' : OpR X f (rD X o')) : OpR X f (rD X (opOr o o')) :=
  OpR.imp (h.or h') fun x y H Q ⟨ρ, S, d1, d2, R, W, r1, r2, q, p⟩ => q.imp (fun q => ⟨ρ, S, d1, d2, R, W, r1, r2, q, p⟩) fun q => ⟨ρ, S, d1, d2, R, W, r1, r2, q, p⟩
def wOp (o : DOp) (wa wb : WE) : WE := fun τ S R => wa τ S fun d1 S1 => wb τ S1 fun d2 S2 => o d1 d2 S2 R
section
variable {X : Cx} {pos : Pos} {a b c : Expr} {wa wb wc : WE}
theorem op_pass {o : DOp} {σ : St} {H : Hp} {Q : VK} (h : dE X (wOp o wa wb) σ H Q) : tOp (rD X o) (dE X wa) (dE X wb) σ H Q := by
  obtain ⟨ρ, τ, S, R, W, er, h, p⟩ := h
  refine ⟨ρ, τ, S, _, W, er, h, fun d1 S1 h1 ρ1 H1 v1 x1 W1 r1 => ⟨ρ1, τ, S1, _, W1, er.ext W.sep x1, h1, fun d2 S2 h2 ρ2 H2 v2 x2 W2 r2 => ?_⟩⟩
  exact ⟨ρ2, S2, d1, d2, R, W2, r1.ext W1.sep x2, r2, h2, (p.ext W1 x1).ext W2 x2⟩
theorem de_op {op : Operator} {o : DOp} (ho : OpR X (binaryOp op) (rD X o)) (ha : PE X a (dE X wa)) (hb : PE X b (dE X wb)) : PE X (.BinOp a op b pos) (dE X (wOp o wa wb)) := PE.imp (pe_op ho ha hb) fun _ _ _ => op_pass
theorem de_cmp {op : CmpOp} {o : DOp} (ho : OpR X (compareOp op) (rD X o)) (ha : PE X a (dE X wa)) (hb : PE X b (dE X wb)) (hm : behindInMarks op b = false := by first | exact nomark _ | rfl) : PE X (.Compare a [op] [b] pos) (dE X (wOp o wa wb)) :=
  PE.imp (pe_cmpR ho ha hb hm) fun _ _ _ => op_pass
/-- a comparison's answer as a test -/
def wTest (w : WE) : WT := fun τ S R => w τ S fun d S1 => ∃ b, d = .bl b ∧ R b S1
theorem test_pass {t : TE} {w : WE} (k : ∀ σ H Q, dE X w σ H Q → t σ H Q) {σ : St} {H : Hp} {Q : Bool → Hp → Prop} (h : dT X (wTest w) σ H Q) : tTest t σ H Q := by
  obtain ⟨ρ, τ, S, R, W, er, h, p⟩ := h
  refine k σ H _ ⟨ρ, τ, S, _, W, er, h, fun d S1 ⟨b, e, h1⟩ ρ1 H1 v x1 W1 r => ?_⟩
  subst e
  exact ⟨b, r.bl_of, p b S1 h1 ρ1 H1 x1 W1⟩
theorem dt_cmp {op : CmpOp} {o : DOp} (ho : OpR X (compareOp op) (rD X o)) (ha : PE X a (dE X wa)) (hb : PE X b (dE X wb)) (hm : behindInMarks op b = false := by first | exact nomark _ | rfl) : PT X (.Compare a [op] [b] pos) (dT X (wTest (wOp o wa wb))) :=
  PT.imp (pt_cmpR ho ha hb hm) fun _ _ _ => test_pass fun _ _ _ => op_pass
/-- a < b < c -/
def wChain (o o' : DOp) (wa wb wc : WE) : WE := fun τ S R => wa τ S fun d1 S1 => wb τ S1 fun d2 S2 => o d1 d2 S2 fun d S3 => ∃ k, d = .bl k ∧
  if k = true then wc τ S3 fun d3 S4 => o' d2 d3 S4 R else R (.bl false) S3
theorem chain_pass {o o' : DOp} {σ : St} {H : Hp} {Q : VK} (h : dE X (wChain o o' wa wb wc) σ H Q) : tChain (rD X o) (rD X o') (dE X wa) (dE X wb) (dE X wc) σ H Q := by
  obtain ⟨ρ, τ, S, R, W, er, h, p⟩ := h
  refine ⟨ρ, τ, S, _, W, er, h, fun d1 S1 h1 ρ1 H1 v1 x1 W1 r1 => ⟨ρ1, τ, S1, _, W1, er.ext W.sep x1, h1, fun d2 S2 h2 ρ2 H2 v2 x2 W2 r2 => ?_⟩⟩
  refine ⟨ρ2, S2, d1, d2, _, W2, r1.ext W1.sep x2, r2, h2, fun d S3 h3 ρ3 H3 v3 x3 W3 r3 => ?_⟩
  obtain ⟨k, e, h3⟩ := h3
  subst e
  refine ⟨k, r3.bl_of, ?_⟩
  have pq := ((p.ext W1 x1).ext W2 x2).ext W3 x3
  cases k with
  | true =>
    rw [if_pos rfl] at h3 ⊢
    refine ⟨ρ3, τ, S3, _, W3, ((er.ext W.sep x1).ext W1.sep x2).ext W2.sep x3, h3, fun d3 S4 h4 ρ4 H4 v4 x4 W4 r4 => ?_⟩
    exact ⟨ρ4, S4, d2, d3, R, W4, (r2.ext W2.sep x3).ext W3.sep x4, r4, h4, pq.ext W4 x4⟩
  | false =>
    rw [if_neg Bool.false_ne_true] at h3 ⊢
    exact pq _ _ h3 ρ3 H3 _ (Ext.refl _ _) W3 .bl
end
end Dl

namespace Dl
open PySem L2

/-! ### truth -/
def truD (S : Sto) : D → Option Bool
  | .non => some false
  | .bl b => some b
  | .int i => some (i != 0)
  | .str x => if x.length ≤ sizeLine then some ((x.length : Int) != 0) else none
  | .tup ds => some (!ds.isEmpty)
  | .fls ds => some (!ds.isEmpty)
  | .loc l => match S[l]? with
    | some (.lst xs) => some (!xs.isEmpty)
    | _ => none
theorem VRs.isEmpty {K : PySem.W.Frag} {ρ : List Addr} {H : Hp} {ds : List D} {vs : List V} (h : VRs K ρ H ds vs) : (!vs.isEmpty) = !ds.isEmpty := by
  cases ds with
  | nil =>
    unfold VRs at h
    subst h
    rfl
  | cons d ds =>
    unfold VRs at h
    obtain ⟨v, vr, rfl, _⟩ := h
    rfl
theorem truD_ok {X : Cx} {ρ : List Addr} {S : Sto} {H : Hp} {d : D} {v : V} {b : Bool} (W : XW X ρ S H) (r : VR X.K ρ H d v) (e : truD S d = some b) : TruV X.K v H b := by
  cases d with
  | non =>
    cases r.non_of
    exact (Option.some.inj e).symm
  | bl k =>
    cases r.bl_of
    exact (Option.some.inj e).symm
  | int i =>
    cases r.int_of
    exact (Option.some.inj e).symm
  | str x =>
    cases r.str_of
    have e' : (if x.length ≤ sizeLine then some ((x.length : Int) != 0) else none) = some b := e
    by_cases hz : x.length ≤ sizeLine
    · rw [if_pos hz] at e'
      exact ⟨hz, (Option.some.inj e').symm⟩
    · rw [if_neg hz] at e'
      cases e'
  | tup ds =>
    obtain ⟨a, vs, rfl, h1, h2⟩ := r.tup_of
    exact .inr (.inl ⟨vs, h1.sq, by rw [h2.isEmpty]; exact (Option.some.inj e).symm⟩)
  | fls ds =>
    obtain ⟨a, vs, rfl, h1, h2⟩ := r.fls_of
    exact .inl ⟨vs, h1.sq, by rw [h2.isEmpty]; exact (Option.some.inj e).symm⟩
  | loc l =>
    obtain ⟨a, h1, rfl⟩ := r.loc_of
    simp only [truD] at e
    split at e
    · rename_i xs h2
      obtain ⟨vs, h3, h4⟩ := W.obj l a _ h1 h2
      exact .inl ⟨vs, SqL.of h3, by rw [h4.isEmpty]; exact (Option.some.inj e).symm⟩
    · cases e
def wTruth (w : WE) : WT := fun τ S R => w τ S fun d S1 => ∃ b, truD S1 d = some b ∧ R b S1
section
variable {X : Cx} {pos : Pos} {a b c : Expr} {wa wb wc : WE} {tA tB : WT} {rest : List Expr}
theorem dt_truth (ha : PE X a (dE X wa)) (he : ∀ whole, isTrue a X.env whole = (do let v ← whole; standAt a.pos; holding [v] (truthy v)) := by intro _; rfl) : PT X a (dT X (wTruth wa)) :=
  PT.imp (pt_truth ha he) fun σ H Q ⟨ρ, τ, S, R, W, er, h, p⟩ => ⟨ρ, τ, S, _, W, er, h, fun d S1 ⟨b, e, h1⟩ ρ1 H1 v x1 W1 r => ⟨b, truD_ok W1 r e, p b S1 h1 ρ1 H1 x1 W1⟩⟩
/-! ### and, or, not, if else -/
def wAnd (t u : WT) : WT := fun τ S R => t τ S fun c S1 => if c = true then u τ S1 R else R false S1
def wOr (t u : WT) : WT := fun τ S R => t τ S fun c S1 => if c = true then R true S1 else u τ S1 R
def wNot (t : WT) : WT := fun τ S R => t τ S fun c S1 => R (!c) S1
theorem dw_and1 (ha : PT X a (dT X tA)) : PW X (.BoolOp .And [a] pos) (dT X tA) := pw_and1 ha
theorem dw_or1 (ha : PT X a (dT X tA)) : PW X (.BoolOp .Or [a] pos) (dT X tA) := pw_or1 ha
theorem dw_and (ha : PT X a (dT X tA)) (hb : PW X (.BoolOp .And (b :: rest) pos) (dT X tB)) : PW X (.BoolOp .And (a :: b :: rest) pos) (dT X (wAnd tA tB)) :=
  PW.imp (pw_and ha hb) fun σ H Q ⟨ρ, τ, S, R, W, er, h, p⟩ => ⟨ρ, τ, S, _, W, er, h, fun c S1 h1 ρ1 H1 x1 W1 => by
    cases c with
    | true =>
      rw [if_pos rfl] at h1 ⊢
      exact ⟨ρ1, τ, S1, R, W1, er.ext W.sep x1, h1, p.ext W1 x1⟩
    | false =>
      rw [if_neg Bool.false_ne_true] at h1 ⊢
      exact p _ _ h1 ρ1 H1 x1 W1⟩
theorem dw_or (ha : PT X a (dT X tA)) (hb : PW X (.BoolOp .Or (b :: rest) pos) (dT X tB)) : PW X (.BoolOp .Or (a :: b :: rest) pos) (dT X (wOr tA tB)) :=
  PW.imp (pw_or ha hb) fun σ H Q ⟨ρ, τ, S, R, W, er, h, p⟩ => ⟨ρ, τ, S, _, W, er, h, fun c S1 h1 ρ1 H1 x1 W1 => by
    cases c with
    | true =>
      rw [if_pos rfl] at h1 ⊢
      exact p _ _ h1 ρ1 H1 x1 W1
    | false =>
      rw [if_neg Bool.false_ne_true] at h1 ⊢
      exact ⟨ρ1, τ, S1, R, W1, er.ext W.sep x1, h1, p.ext W1 x1⟩⟩
theorem dt_not (ha : PT X a (dT X tA)) : PT X (.UnaryOp .Not a pos) (dT X (wNot tA)) :=
  PT.imp (pt_not ha) fun σ H Q ⟨ρ, τ, S, R, W, er, h, p⟩ => ⟨ρ, τ, S, _, W, er, h, fun c S1 h1 ρ1 H1 x1 W1 => p _ _ h1 ρ1 H1 x1 W1⟩
/-- as values -/
def wAndV (wa wb : WE) : WE := fun τ S R => wa τ S fun d S1 => ∃ b, truD S1 d = some b ∧ if b = true then wb τ S1 R else R d S1
def wOrV (wa wb : WE) : WE := fun τ S R => wa τ S fun d S1 => ∃ b, truD S1 d = some b ∧ if b = true then R d S1 else wb τ S1 R
def wNotV (wa : WE) : WE := fun τ S R => wa τ S fun d S1 => ∃ b, truD S1 d = some b ∧ R (.bl (!b)) S1
theorem de_one {op : BoolOp} (ha : PE X a (dE X wa)) : PE X (.BoolOp op [a] pos) (dE X wa) := pe_one ha
theorem de_and (ha : PE X a (dE X wa)) (hb : PE X (.BoolOp .And (b :: rest) pos) (dE X wb)) : PE X (.BoolOp .And (a :: b :: rest) pos) (dE X (wAndV wa wb)) :=
  PE.imp (pe_andT ha hb) fun σ H Q ⟨ρ, τ, S, R, W, er, h, p⟩ => ⟨ρ, τ, S, _, W, er, h, fun d S1 ⟨b, e, h1⟩ ρ1 H1 v x1 W1 r => by
    refine ⟨b, truD_ok W1 r e, ?_⟩
    cases b with
    | true =>
      rw [if_pos rfl] at h1 ⊢
      exact ⟨ρ1, τ, S1, R, W1, er.ext W.sep x1, h1, p.ext W1 x1⟩
    | false =>
      rw [if_neg Bool.false_ne_true] at h1 ⊢
      exact p _ _ h1 ρ1 H1 v x1 W1 r⟩
theorem de_or (ha : PE X a (dE X wa)) (hb : PE X (.BoolOp .Or (b :: rest) pos) (dE X wb)) : PE X (.BoolOp .Or (a :: b :: rest) pos) (dE X (wOrV wa wb)) :=
  PE.imp (pe_orT ha hb) fun σ H Q ⟨ρ, τ, S, R, W, er, h, p⟩ => ⟨ρ, τ, S, _, W, er, h, fun d S1 ⟨b, e, h1⟩ ρ1 H1 v x1 W1 r => by
    refine ⟨b, truD_ok W1 r e, ?_⟩
    cases b with
    | true =>
      rw [if_pos rfl] at h1 ⊢
      exact p _ _ h1 ρ1 H1 v x1 W1 r
    | false =>
      rw [if_neg Bool.false_ne_true] at h1 ⊢
      exact ⟨ρ1, τ, S1, R, W1, er.ext W.sep x1, h1, p.ext W1 x1⟩⟩
theorem de_not (ha : PE X a (dE X wa)) : PE X (.UnaryOp .Not a pos) (dE X (wNotV wa)) :=
  PE.imp (pe_notT ha) fun σ H Q ⟨ρ, τ, S, R, W, er, h, p⟩ => ⟨ρ, τ, S, _, W, er, h, fun d S1 ⟨b, e, h1⟩ ρ1 H1 v x1 W1 r => ⟨b, truD_ok W1 r e, p _ _ h1 ρ1 H1 _ x1 W1 .bl⟩⟩
def wIf (t : WT) (wa wb : WE) : WE := fun τ S R => t τ S fun c S1 => if c = true then wa τ S1 R else wb τ S1 R
theorem de_if (hc : PT X c (dT X tA)) (ha : PE X a (dE X wa)) (hb : PE X b (dE X wb)) : PE X (.IfExp c a b pos) (dE X (wIf tA wa wb)) :=
  PE.imp (pe_ifExp hc ha hb) fun σ H Q ⟨ρ, τ, S, R, W, er, h, p⟩ => ⟨ρ, τ, S, _, W, er, h, fun c S1 h1 ρ1 H1 x1 W1 => by
    cases c with
    | true =>
      rw [if_pos rfl] at h1 ⊢
      exact ⟨ρ1, τ, S1, R, W1, er.ext W.sep x1, h1, p.ext W1 x1⟩
    | false =>
      rw [if_neg Bool.false_ne_true] at h1 ⊢
      exact ⟨ρ1, τ, S1, R, W1, er.ext W.sep x1, h1, p.ext W1 x1⟩⟩
end

/-! ### argument lists, displays -/
def wNil : WA := fun _ S R => R [] S
def wCons (wa : WE) (wr : WA) : WA := fun τ S R => wa τ S fun d S1 => wr τ S1 fun ds S2 => R (d :: ds) S2
section
variable {X : Cx} {pos : Pos} {e : Expr} {es : List Expr} {wa : WE} {wr : WA}
theorem da_nil : PA X [] (dA X wNil) := PA.imp pa_nil fun σ H Q ⟨ρ, τ, S, R, W, er, h, p⟩ => p _ _ h ρ H [] (Ext.refl _ _) W .nil
theorem da_cons (ha : PE X e (dE X wa)) (hr : PA X es (dA X wr)) (hs : starEach (e :: es) X.env = (false, eval e X.env) :: starEach es X.env := by rfl) : PA X (e :: es) (dA X (wCons wa wr)) :=
  PA.imp (pa_cons ha hr hs) fun σ H Q ⟨ρ, τ, S, R, W, er, h, p⟩ => ⟨ρ, τ, S, _, W, er, h, fun d S1 h1 ρ1 H1 v x1 W1 r1 => ⟨ρ1, τ, S1, _, W1, er.ext W.sep x1, h1, fun ds S2 h2 ρ2 H2 vs x2 W2 r2 =>
    p _ _ h2 ρ2 H2 _ (x1.trans W1.sep x2) W2 (.cons (r1.ext W1.sep x2) r2)⟩⟩
def wTup (wr : WA) : WE := fun τ S R => wr τ S fun ds S1 => ds.length ≤ sizeLine ∧ R (.tup ds) S1
def wLst (wr : WA) : WE := fun τ S R => wr τ S fun ds S1 => ds.length ≤ sizeLine ∧ R (.loc S1.length) (S1 ++ [.lst ds])
/-- a new tuple -/
theorem new_tup {ρ : List Addr} {S : Sto} {H : Hp} {R : DQ} {Q : VK} {ds : List D} {vs : List V} (W : XW X ρ S H) (r : VRs X.K ρ H ds vs) (h : R (.tup ds) S) (p : PassE X ρ H R Q) {a : Addr} (ha : H a = none) : Q (.ref a) (upd H a (.tup vs)) :=
  p _ _ h ρ _ _ (ext_new ha) (W.laid ha) (.tup (.inl upd_same) (VRs.ext W.sep (ext_new ha) _ _ r))
/-- a new list -/
theorem new_lst {ρ : List Addr} {S : Sto} {H : Hp} {R : DQ} {Q : VK} {ds : List D} {vs : List V} (W : XW X ρ S H) (r : VRs X.K ρ H ds vs) (h : R (.loc S.length) (S ++ [.lst ds])) (p : PassE X ρ H R Q) {a : Addr} (ha : H a = none) : Q (.ref a) (upd H a (.lst vs)) :=
  p _ _ h (ρ ++ [a]) _ _ (ext_alloc ha) (W.alloc ha ⟨vs, upd_same, VRs.ext W.sep (ext_alloc ha) _ _ r⟩) (.loc (by rw [← W.len]; exact List.getElem?_concat_length ..))
theorem de_tup {x1 : Nat} (h : PA X es (dA X wr)) : PE X (.Tuple es x1 pos) (dE X (wTup wr)) :=
  PE.imp (pe_tup h) fun σ H Q ⟨ρ, τ, S, R, W, er, h, p⟩ => ⟨ρ, τ, S, _, W, er, h, fun ds S1 ⟨hz, h1⟩ ρ1 H1 vs x1 W1 r => ⟨by rw [r.length]; exact hz, fun a ha => new_tup W1 r h1 (p.ext W1 x1) ha⟩⟩
theorem de_lst (h : PA X es (dA X wr)) : PE X (.List es pos) (dE X (wLst wr)) :=
  PE.imp (pe_lst h) fun σ H Q ⟨ρ, τ, S, R, W, er, h, p⟩ => ⟨ρ, τ, S, _, W, er, h, fun ds S1 ⟨hz, h1⟩ ρ1 H1 vs x1 W1 r => ⟨by rw [r.length]; exact hz, fun a ha => new_lst W1 r h1 (p.ext W1 x1) ha⟩⟩
end

/-! ### subscripts, slices -/
section
variable {X : Cx} {pos p2 : Pos} {a b e : Expr} {wa wb we : WE} {lo hi : Option Expr}
theorem IxR.imp {r r' : R2} (h : IxR X r) (k : ∀ x y H Q, r' x y H Q → r x y H Q) : IxR X r' := fun value slice pins s σ H x y v u Q I rx ry q => h value slice pins s σ H x y v u Q I rx ry (k x y H Q q)
theorem IxD.or {o o' : DOp} (h : IxR X (rD X o)) (h' : IxR X (rD X o')) : IxR X (rD X (opOr o o')) :=
  IxR.imp (h.or h') fun x y H Q ⟨ρ, S, d1, d2, R, W, r1, r2, q, p⟩ => q.imp (fun q => ⟨ρ, S, d1, d2, R, W, r1, r2, q, p⟩) fun q => ⟨ρ, S, d1, d2, R, W, r1, r2, q, p⟩
theorem de_ix {o : DOp} (ho : IxR X (rD X o)) (ha : PE X a (dE X wa)) (hb : PE X b (dE X wb)) (hs : PlainIx b := by exact fun _ _ => rfl) : PE X (.Subscript a b pos) (dE X (wOp o wa wb)) := PE.imp (pe_ix ho ha hb hs) fun _ _ _ => op_pass
abbrev WO := DEnv → Sto → (Option Int → Sto → Prop) → Prop
def dO (X : Cx) (w : WO) : TO := fun σ H Q => ∃ ρ τ S R, XW X ρ S H ∧ ER X.K ρ H τ σ ∧ w τ S R ∧ ∀ i S', R i S' → ∀ ρ' H', Ext ρ H ρ' H' → XW X ρ' S' H' → Q i H'
def wNoPart : WO := fun _ S R => R none S
def wPart (w : WE) : WO := fun τ S R => w τ S fun d S1 => ∃ i, d = .int i ∧ R (some i) S1
theorem PO.imp {x : Option Expr} {t t' : TO} (h : PO X x t) (k : ∀ σ H Q, t' σ H Q → t σ H Q) : PO X x t' := ⟨fun pins s σ H Q I q => h.run pins s σ H Q I (k σ H Q q)⟩
theorem do_none : PO X none (dO X wNoPart) := PO.imp po_none fun σ H Q ⟨ρ, τ, S, R, W, er, h, p⟩ => p _ _ h ρ H (Ext.refl _ _) W
theorem do_some (ha : PE X a (dE X wa)) : PO X (some a) (dO X (wPart wa)) := PO.imp (po_some ha) fun σ H Q ⟨ρ, τ, S, R, W, er, h, p⟩ => ⟨ρ, τ, S, _, W, er, h, fun d S1 ⟨i, e, h1⟩ ρ1 H1 v x1 W1 r => by
  subst e
  exact ⟨i, r.int_of, p _ _ h1 ρ1 H1 x1 W1⟩⟩
abbrev DSl := D → Option Int → Option Int → Sto → DQ → Prop
def rSlD (X : Cx) (op : DSl) : V → Option Int → Option Int → Hp → VK → Prop := fun x lo hi H Q => ∃ ρ S d R, XW X ρ S H ∧ VR X.K ρ H d x ∧ op d lo hi S R ∧ PassE X ρ H R Q
theorem SlR.imp {r r' : V → Option Int → Option Int → Hp → VK → Prop} (h : SlR X r) (k : ∀ x l u H Q, r' x l u H Q → r x l u H Q) : SlR X r' := fun pins s σ H x v vl vu l u sl Q I rx hs pl pu q => h pins s σ H x v vl vu l u sl Q I rx hs pl pu (k x l u H Q q)
def slOr (o o' : DSl) : DSl := fun d lo hi S R => o d lo hi S R ∨ o' d lo hi S R
theorem SlD.or {o o' : DSl} (h : SlR X (rSlD X o)) (h' : SlR X (rSlD X o')) : SlR X (rSlD X (slOr o o')) :=
  SlR.imp (h.or h') fun x l u H Q ⟨ρ, S, d, R, W, r, q, p⟩ => q.imp (fun q => ⟨ρ, S, d, R, W, r, q, p⟩) fun q => ⟨ρ, S, d, R, W, r, q, p⟩
def wSl (o : DSl) (we : WE) (wl wh : WO) : WE := fun τ S R => we τ S fun d S1 => wl τ S1 fun l S2 => wh τ S2 fun u S3 => o d l u S3 R
theorem de_slice {o : DSl} {wl wh : WO} (ho : SlR X (rSlD X o)) (he : PE X e (dE X we)) (hl : PO X lo (dO X wl)) (hu : PO X hi (dO X wh)) : PE X (.Subscript e (.Slice lo hi none p2) pos) (dE X (wSl o we wl wh)) :=
  PE.imp (pe_slice ho he hl hu) fun σ H Q ⟨ρ, τ, S, R, W, er, h, p⟩ => ⟨ρ, τ, S, _, W, er, h, fun d S1 h1 ρ1 H1 v x1 W1 r1 => ⟨ρ1, τ, S1, _, W1, er.ext W.sep x1, h1, fun l S2 h2 ρ2 H2 x2 W2 =>
    ⟨ρ2, τ, S2, _, W2, (er.ext W.sep x1).ext W1.sep x2, h2, fun u S3 h3 ρ3 H3 x3 W3 => ⟨ρ3, S3, d, R, W3, (r1.ext W1.sep x2).ext W2.sep x3, h3, ((p.ext W1 x1).ext W2 x2).ext W3 x3⟩⟩⟩⟩
end

/-! ### calls of built-ins -/
abbrev DCall := List D → Sto → DQ → Prop
def rCD (X : Cx) (op : DCall) : List V → Hp → VK → Prop := fun xs H Q => ∃ ρ S ds R, XW X ρ S H ∧ VRs X.K ρ H ds xs ∧ op ds S R ∧ PassE X ρ H R Q
section
variable {X : Cx} {pos p : Pos} {e : Expr} {es : List Expr} {wr : WA} {x : Str} {id T : String}
theorem CallR.imp {f : Value} {r r' : List V → Hp → VK → Prop} (h : CallR X f r) (k : ∀ xs H Q, r' xs H Q → r xs H Q) : CallR X f r' := fun pins s σ H xs us Q I r1 q => h pins s σ H xs us Q I r1 (k xs H Q q)
theorem CallR.or {f : Value} {r r' : List V → Hp → VK → Prop} (h : CallR X f r) (h' : CallR X f r') : CallR X f (fun xs H Q => r xs H Q ∨ r' xs H Q) := fun pins s σ H xs us Q I r1 q => q.elim (h pins s σ H xs us Q I r1) (h' pins s σ H xs us Q I r1)
def callOr (o o' : DCall) : DCall := fun ds S R => o ds S R ∨ o' ds S R
theorem CallD.or {f : Value} {o o' : DCall} (h : CallR X f (rCD X o)) (h' : CallR X f (rCD X o')) : CallR X f (rCD X (callOr o o')) :=
  CallR.imp (CallR.or h h') fun xs H Q ⟨ρ, S, ds, R, W, r, q, p⟩ => q.imp (fun q => ⟨ρ, S, ds, R, W, r, q, p⟩) fun q => ⟨ρ, S, ds, R, W, r, q, p⟩
def wCB (o : DCall) (wr : WA) : WE := fun τ S R => wr τ S fun ds S1 => o ds S1 R
theorem call_pass {o : DCall} {σ : St} {H : Hp} {Q : VK} (h : dE X (wCB o wr) σ H Q) : tCB (rCD X o) (dA X wr) σ H Q := by
  obtain ⟨ρ, τ, S, R, W, er, h, p⟩ := h
  exact ⟨ρ, τ, S, _, W, er, h, fun ds S1 h1 ρ1 H1 vs x1 W1 r => ⟨ρ1, S1, ds, R, W1, r, h1, p.ext W1 x1⟩⟩
theorem de_callB {o : DCall} (ho : CallR X (.builtin id) (rCD X o)) (hm : X.mg x = none) (hg : Gl X x) (hv : bootBuiltins x = some (.builtin id)) (ha : PA X (e :: es) (dA X wr)) (hn : x ≠ "__name__" := by decide) (hdb : (x == ("__debug__" : Str)) = false := by decide)
    (hs : starEach (e :: es) X.env = (false, eval e X.env) :: starEach es X.env := by rfl) (hpl : (backTo pos (starEach es X.env)).any (·.1) = false := by rfl) :
    PE X (.Call (.Name x p) (e :: es) [] pos) (dE X (wCB o wr)) := PE.imp (pe_callB ho hg hm hv ha hn hdb hs hpl) fun _ _ _ => call_pass
theorem de_callT {o : DCall} (ho : CallR X (.type T) (rCD X o)) (hm : X.mg x = none) (hg : Gl X x) (hv : bootBuiltins x = some (.type T)) (ha : PA X (e :: es) (dA X wr)) (hn : x ≠ "__name__" := by decide) (hdb : (x == ("__debug__" : Str)) = false := by decide)
    (hs : starEach (e :: es) X.env = (false, eval e X.env) :: starEach es X.env := by rfl) (hpl : (backTo pos (starEach es X.env)).any (·.1) = false := by rfl) :
    PE X (.Call (.Name x p) (e :: es) [] pos) (dE X (wCB o wr)) := PE.imp (pe_callTy ho hg hm hv ha hn hdb hs hpl) fun _ _ _ => call_pass
end

/-! ### calls of defs -/
def spD (w : World) (K : PySem.W.Frag) (mg : Str → Option Value) (sp : DSp) : Sp := fun vs H Q _ => ∃ ρ S ds R, Wd w K mg ρ S H ∧ VRs K ρ H ds vs ∧ sp ds S R ∧
  ∀ d S', R d S' → ∀ ρ' H' v, Ext ρ H ρ' H' → Wd w K mg ρ' S' H' → VR K ρ' H' d v → Q v H'
/-! ### room where no value is being shown: the promise of a def, its calls -/
structure RoomG (k : Nat) (A : Around) : Prop where
  room : Room k A
  gd : A.guards = some []
theorem RoomG.mono {j k : Nat} {A : Around} (r : RoomG k A) (h : j ≤ k) : RoomG j A := ⟨r.room.mono h, r.gd⟩
theorem RoomG.deeper {k : Nat} {A : Around} (r : RoomG (k + 1) A) (env : Env) : RoomG k (A.deeper env) := ⟨r.room.deeper env, r.gd⟩
/-- as FnOk, asked only where no value is being shown -/
structure FnG (P : Program) (w : World) (K : PySem.W.Frag) (mg : Str → Option Value) (base : Heap) (CX : CXT) (k : Nat) (f : Addr) (fd : FuncData) (ps : List Str) (sp : Sp) : Prop where
  len : ∀ vs H Q E, sp vs H Q E → vs.length = ps.length
  run : ∀ (A : Around) (outer : List Env) (s : Shared) (H : Hp) (args : Args) (us : List Value) (vs : List V) (Q : VK) (E : XK), RoomG k A → Env0 P w K mg base A outer s H → BindsTo s fd args (ps.zip us) → Vals vs us → sp vs H Q E →
    codeAny (model P w) A (.call (.ref f) args) (CR CX outer P w H s Q E) s
theorem FnG.mono {P : Program} {w : World} {K : PySem.W.Frag} {mg : Str → Option Value} {base : Heap} {CX : CXT} {j k : Nat} {f : Addr} {fd : FuncData} {ps : List Str} {sp : Sp} (F : FnG P w K mg base CX j f fd ps sp) (h : j ≤ k) :
    FnG P w K mg base CX k f fd ps sp := ⟨F.len, fun A outer s H args us vs Q E hr => F.run A outer s H args us vs Q E (hr.mono h)⟩
theorem FnG.imp {P : Program} {w : World} {K : PySem.W.Frag} {mg : Str → Option Value} {base : Heap} {CX : CXT} {k : Nat} {f : Addr} {fd : FuncData} {ps : List Str} {sp sp' : Sp} (F : FnG P w K mg base CX k f fd ps sp)
    (h : ∀ vs H Q E, sp' vs H Q E → sp vs H Q E) : FnG P w K mg base CX k f fd ps sp' :=
  ⟨fun vs H Q E q => F.len vs H Q E (h _ _ _ _ q), fun A outer s H args us vs Q E hr he hb hv hs => F.run A outer s H args us vs Q E hr he hb hv (h _ _ _ _ hs)⟩
section
variable {X : Cx} {CX : CXT} {k : Nat} {f : Addr} {fd : FuncData} {ps : List Str} {sp : Sp} {E : XK} {x : Str} {p pos : Pos} {e : Expr} {es : List Expr} {t : TA}
theorem run_fnG {pins : List (Addr × Obj)} {σ : St} {H : Hp} {s : Shared} {Q : VK} {us : List Value} {vs : List V} (F : FnG X.prog X.w X.K X.mg X.base CX k f fd ps sp) (hr : RoomG k X.A) (hb : Binds X.K fd ps []) (hx : Passes CX X E)
    (I : Inv X pins σ H s) (r : Vals vs us) (h : sp vs H Q E) : wpAny (model X.prog X.w) X.A (call (.ref f) us) (EP X pins σ Q) X.xe s := by
  have hl : us.length = ps.length := by rw [← r.length]; exact F.len _ _ _ _ h
  have hb' := hb s us I.kIn (by rw [List.append_nil]; exact hl)
  rw [List.append_nil] at hb'
  refine wpAny_call (codeAny_mono (F.run X.A X.stack s H ⟨us, []⟩ us vs Q E hr I.env0 hb' r h) fun r s' hq => ?_)
  cases r with
  | error e => exact hx pins σ H s e s' I hq
  | ok fl =>
    cases fl with
    | ret u => exact I.after hq
    | next => exact False.elim hq
    | brk => exact False.elim hq
    | cont => exact False.elim hq
theorem pe_callG (F : FnG X.prog X.w X.K X.mg X.base CX k f fd ps sp) (hr : RoomG k X.A) (hg : Gl X x) (hm : X.mg x = some (.ref f)) (hk : PySem.W.keepIn X.K (.ref f) = true) (hb : Binds X.K fd ps []) (hx : Passes CX X E)
    (ha : PA X (e :: es) t) (hdb : (x == ("__debug__" : Str)) = false := by decide) (he : starEach (e :: es) X.env = (false, eval e X.env) :: starEach es X.env := by rfl) (hpl : (backTo pos (starEach es X.env)).any (·.1) = false := by rfl) :
    PE X (.Call (.Name x p) (e :: es) [] pos) (tCall sp [] E t) := by
  refine ⟨fun pins s σ H Q I h => ?_⟩
  refine wpAny_Call_Name_kw (ld_glob I hg hm ?_ hdb)
  refine PySem.W.callWith_K (h₀ := X.base) I.ok.mod.kin hk (thn (ha.run pos pins s σ H _ I h) fun us s1 ⟨vs, H1, I1, r, q⟩ => ⟨I1.kIn, ?_⟩) he hpl
  have q' : sp (vs ++ []) H1 Q E := q
  rw [List.append_nil] at q'
  exact run_fnG F hr hb hx I1 r q'
theorem pe_callG0 (F : FnG X.prog X.w X.K X.mg X.base CX k f fd ps sp) (hr : RoomG k X.A) (hg : Gl X x) (hm : X.mg x = some (.ref f)) (hk : PySem.W.keepIn X.K (.ref f) = true) (hb : Binds X.K fd ps []) (hx : Passes CX X E)
    (hdb : (x == ("__debug__" : Str)) = false := by decide) : PE X (.Call (.Name x p) [] [] pos) (tCall sp [] E tNil) := by
  refine ⟨fun pins s σ H Q I h => ?_⟩
  refine wpAny_Call_Name_kw (ld_glob I hg hm ?_ hdb)
  exact PySem.W.callWith_K0 I.kIn hk (run_fnG (us := []) F hr hb hx I .nil h)
end
/-- the def of the module at the name x keeps its promise, at most k calls deep -/
structure FnD (P : Program) (w : World) (K : PySem.W.Frag) (mg : Str → Option Value) (base : Heap) (k : Nat) (x : Str) (sp : DSp) : Prop where
  ex : ∃ f fd ps, FnG P w K mg base CX0 k f fd ps (spD w K mg sp) ∧ mg x = some (.ref f) ∧ PySem.W.keepIn K (.ref f) = true ∧ Binds K fd ps []
theorem FnD.mono {P : Program} {w : World} {K : PySem.W.Frag} {mg : Str → Option Value} {base : Heap} {j k : Nat} {x : Str} {sp : DSp} (F : FnD P w K mg base j x sp) (h : j ≤ k) : FnD P w K mg base k x sp :=
  let ⟨f, fd, ps, h1, h2, h3, h4⟩ := F.ex
  ⟨f, fd, ps, h1.mono h, h2, h3, h4⟩
/-- a weaker promise -/
theorem FnD.imp {P : Program} {w : World} {K : PySem.W.Frag} {mg : Str → Option Value} {base : Heap} {k : Nat} {x : Str} {sp sp' : DSp} (F : FnD P w K mg base k x sp) (h : ∀ ds S R, sp' ds S R → sp ds S R) : FnD P w K mg base k x sp' :=
  let ⟨f, fd, ps, h1, h2, h3, h4⟩ := F.ex
  ⟨f, fd, ps, h1.imp fun vs H Q E ⟨ρ, S, ds, R, W, r, q, p⟩ => ⟨ρ, S, ds, R, W, r, h _ _ _ q, p⟩, h2, h3, h4⟩
def wCall (sp : DSp) (wr : WA) : WE := fun τ S R => wr τ S fun ds S1 => sp ds S1 R
section
variable {X : Cx} {pos p : Pos} {e : Expr} {es : List Expr} {wr : WA} {x : Str} {k : Nat} {sp : DSp}
theorem de_call (F : FnD X.prog X.w X.K X.mg X.base k x sp) (hr : RoomG k X.A) (hg : Gl X x) (ha : PA X (e :: es) (dA X wr)) (hdb : (x == ("__debug__" : Str)) = false := by decide)
    (he : starEach (e :: es) X.env = (false, eval e X.env) :: starEach es X.env := by rfl) (hpl : (backTo pos (starEach es X.env)).any (·.1) = false := by rfl) : PE X (.Call (.Name x p) (e :: es) [] pos) (dE X (wCall sp wr)) := by
  obtain ⟨f, fd, ps, h1, h2, h3, h4⟩ := F.ex
  refine PE.imp (pe_callG h1 hr hg h2 h3 h4 pass0 ha hdb he hpl) fun σ H Q ⟨ρ, τ, S, R, W, er, h, p⟩ => ?_
  exact ⟨ρ, τ, S, _, W, er, h, fun ds S1 h1 ρ1 H1 vs x1 W1 r => ⟨ρ1, S1, ds, R, W1, by rw [List.append_nil]; exact r, h1, p.ext W1 x1⟩⟩
theorem de_call0 (F : FnD X.prog X.w X.K X.mg X.base k x sp) (hr : RoomG k X.A) (hg : Gl X x) (hdb : (x == ("__debug__" : Str)) = false := by decide) : PE X (.Call (.Name x p) [] [] pos) (dE X (wCall sp wNil)) := by
  obtain ⟨f, fd, ps, h1, h2, h3, h4⟩ := F.ex
  refine PE.imp (pe_callG0 h1 hr hg h2 h3 h4 pass0 hdb) fun σ H Q ⟨ρ, τ, S, R, W, er, h, p⟩ => ?_
  exact ⟨ρ, S, [], R, W, .nil, h, p⟩
end
end Dl

namespace Dl
open PySem L2

/-! ### blocks and small statements -/
def wSkip : WS := fun R τ S => R.nx τ S
def wSeq (t u : WS) : WS := fun R τ S => t { R with nx := fun τ' S' => u R τ' S' } τ S
def wBreak : WS := fun R τ S => R.bk τ S
def wCont : WS := fun R τ S => R.ct τ S
def wDrop (we : WE) : WS := fun R τ S => we τ S fun _ S1 => R.nx τ S1
def wRet (we : WE) : WS := fun R τ S => we τ S R.rt
def wRetN : WS := fun R _ S => R.rt .non S
def wIfS (c : WT) (t u : WS) : WS := fun R τ S => c τ S fun b S1 => if b = true then t R τ S1 else u R τ S1
def wNever : WS := fun _ _ _ => False
section
variable {X : Cx} {st : Stmt} {rest : List Stmt} {wt wu : WS} {e c : Expr} {we : WE} {wc : WT} {pos : Pos} {a b : List Stmt}
theorem ds_nil : PSs X [] (dS X wSkip) := PSs.imp pss_nil fun D σ H ⟨ρ, τ, S, R, W, er, h, p1, p2, p3, p4⟩ => p1 _ _ h ρ H σ (Ext.refl _ _) W er
theorem ds_cons (h1 : PS X st (dS X wt)) (h2 : PSs X rest (dS X wu)) : PSs X (st :: rest) (dS X (wSeq wt wu)) :=
  PSs.imp (pss_cons h1 h2) fun D σ H ⟨ρ, τ, S, R, W, er, h, p1, p2, p3, p4⟩ => ⟨ρ, τ, S, _, W, er, h, fun τ' S' h' ρ1 H1 σ1 x1 W1 er1 => ⟨ρ1, τ', S', R, W1, er1, h', p1.ext W1 x1, p2.ext W1 x1, p3.ext W1 x1, p4.ext W1 x1⟩, p2, p3, p4⟩
theorem ds_one (h1 : PS X st (dS X wt)) : PSs X [st] (dS X wt) := pss_one h1
theorem ds_pass : PS X (.Pass pos) (dS X wSkip) := PS.imp ps_pass fun D σ H ⟨ρ, τ, S, R, W, er, h, p1, p2, p3, p4⟩ => p1 _ _ h ρ H σ (Ext.refl _ _) W er
theorem ds_break : PS X (.Break pos) (dS X wBreak) := PS.imp ps_break fun D σ H ⟨ρ, τ, S, R, W, er, h, p1, p2, p3, p4⟩ => p3 _ _ h ρ H σ (Ext.refl _ _) W er
theorem ds_cont : PS X (.Continue pos) (dS X wCont) := PS.imp ps_continue fun D σ H ⟨ρ, τ, S, R, W, er, h, p1, p2, p3, p4⟩ => p4 _ _ h ρ H σ (Ext.refl _ _) W er
theorem ds_expr (he : PE X e (dE X we)) (hs : swapsWith e none pos.line X.env = pure false := by rfl) : PS X (.Expr e pos) (dS X (wDrop we)) :=
  PS.imp (ps_expr he hs) fun D σ H ⟨ρ, τ, S, R, W, er, h, p1, p2, p3, p4⟩ => ⟨ρ, τ, S, _, W, er, h, fun d S1 h1 ρ1 H1 v x1 W1 r => p1 _ _ h1 ρ1 H1 σ x1 W1 (er.ext W.sep x1)⟩
theorem ds_ret (he : PE X e (dE X we)) : PS X (.Return (some e) pos) (dS X (wRet we)) :=
  PS.imp (ps_ret he) fun D σ H ⟨ρ, τ, S, R, W, er, h, p1, p2, p3, p4⟩ => ⟨ρ, τ, S, _, W, er, h, p2⟩
theorem ds_retN : PS X (.Return none pos) (dS X wRetN) := PS.imp ps_retN fun D σ H ⟨ρ, τ, S, R, W, er, h, p1, p2, p3, p4⟩ => p2 _ _ h ρ H _ (Ext.refl _ _) W .non
theorem ds_if (hc : PT X c (dT X wc)) (ha : PSs X a (dS X wt)) (hb : PSs X b (dS X wu)) : PS X (.If c a b pos) (dS X (wIfS wc wt wu)) :=
  PS.imp (ps_if hc ha hb) fun D σ H ⟨ρ, τ, S, R, W, er, h, p1, p2, p3, p4⟩ => ⟨ρ, τ, S, _, W, er, h, fun b S1 h1 ρ1 H1 x1 W1 => by
    cases b with
    | true =>
      rw [if_pos rfl] at h1 ⊢
      exact ⟨ρ1, τ, S1, R, W1, er.ext W.sep x1, h1, p1.ext W1 x1, p2.ext W1 x1, p3.ext W1 x1, p4.ext W1 x1⟩
    | false =>
      rw [if_neg Bool.false_ne_true] at h1 ⊢
      exact ⟨ρ1, τ, S1, R, W1, er.ext W.sep x1, h1, p1.ext W1 x1, p2.ext W1 x1, p3.ext W1 x1, p4.ext W1 x1⟩⟩
theorem ds_never : PS X st (dS X wNever) := PS.imp ps_never fun D σ H ⟨ρ, τ, S, R, W, er, h, _⟩ => h.elim
theorem ds_nevers : PSs X rest (dS X wNever) := PSs.imp pss_never fun D σ H ⟨ρ, τ, S, R, W, er, h, _⟩ => h.elim
end

/-! ### targets -/
abbrev WG := D → DEnv → Sto → (DEnv → Sto → Prop) → Prop
abbrev WGs := List D → DEnv → Sto → (DEnv → Sto → Prop) → Prop
def dG (X : Cx) (g : WG) : TG := fun v σ H Q => ∃ ρ τ S d R, XW X ρ S H ∧ ER X.K ρ H τ σ ∧ VR X.K ρ H d v ∧ g d τ S R ∧ PassN X ρ H R Q
def dGs (X : Cx) (g : WGs) : TGs := fun vs σ H Q => ∃ ρ τ S ds R, XW X ρ S H ∧ ER X.K ρ H τ σ ∧ VRs X.K ρ H ds vs ∧ g ds τ S R ∧ PassN X ρ H R Q
theorem PG.imp {X : Cx} {e : Expr} {t t' : TG} (h : PG X e t) (k : ∀ v σ H Q, t' v σ H Q → t v σ H Q) : PG X e t' := ⟨fun pins s σ H v u Q I r q => h.run pins s σ H v u Q I r (k v σ H Q q)⟩
theorem PGs.imp {X : Cx} {es : List Expr} {t t' : TGs} (h : PGs X es t) (k : ∀ v σ H Q, t' v σ H Q → t v σ H Q) : PGs X es t' := ⟨fun pins s σ H v u Q I r q => h.run pins s σ H v u Q I r (k v σ H Q q)⟩
def wgName (i : Nat) : WG := fun d τ S R => R (τ.set i (some d)) S
def wgNil : WGs := fun ds τ S R => ds = [] ∧ R τ S
def wgCons (g : WG) (gs : WGs) : WGs := fun ds τ S R => ∃ d r, ds = d :: r ∧ g d τ S fun τ1 S1 => gs r τ1 S1 R
def wgTup (n : Nat) (gs : WGs) : WG := fun d τ S R => ∃ ds, d = .tup ds ∧ ds.length = n ∧ gs ds τ S R
abbrev DSet := D → D → D → Sto → (Sto → Prop) → Prop
def rSetD (X : Cx) (op : DSet) : TSet := fun o i v H Q => ∃ ρ S d1 d2 d3 R, XW X ρ S H ∧ VR X.K ρ H d1 o ∧ VR X.K ρ H d2 i ∧ VR X.K ρ H d3 v ∧ op d1 d2 d3 S R ∧ ∀ S', R S' → ∀ ρ' H', Ext ρ H ρ' H' → XW X ρ' S' H' → Q H'
def wgSub (wo wi : WE) (op : DSet) : WG := fun d τ S R => wo τ S fun d1 S1 => wi τ S1 fun d2 S2 => op d1 d2 d S2 fun S3 => R τ S3
theorem PSet.or {X : Cx} {t t' : TSet} (h : PSet X t) (h' : PSet X t') : PSet X (fun o i v H Q => t o i v H Q ∨ t' o i v H Q) := fun pins s σ H o i v ov iv u Q I r1 r2 r3 q => q.elim (h pins s σ H o i v ov iv u Q I r1 r2 r3) (h' pins s σ H o i v ov iv u Q I r1 r2 r3)
theorem PSet.imp {X : Cx} {t t' : TSet} (h : PSet X t) (k : ∀ o i v H Q, t' o i v H Q → t o i v H Q) : PSet X t' := fun pins s σ H o i v ov iv u Q I r1 r2 r3 q => h pins s σ H o i v ov iv u Q I r1 r2 r3 (k o i v H Q q)
def setOr (o o' : DSet) : DSet := fun a b c S R => o a b c S R ∨ o' a b c S R
theorem SetD.or {X : Cx} {o o' : DSet} (h : PSet X (rSetD X o)) (h' : PSet X (rSetD X o')) : PSet X (rSetD X (setOr o o')) :=
  PSet.imp (PSet.or h h') fun a b c H Q ⟨ρ, S, d1, d2, d3, R, W, r1, r2, r3, q, p⟩ => q.imp (fun q => ⟨ρ, S, d1, d2, d3, R, W, r1, r2, r3, q, p⟩) fun q => ⟨ρ, S, d1, d2, d3, R, W, r1, r2, r3, q, p⟩
section
variable {X : Cx} {pos : Pos} {wg : WG} {wgs : WGs} {e o i : Expr} {es : List Expr} {wo wi we : WE}
theorem dg_name {i : Nat} {x : Str} (hN : X.N.Nodup) (hi : X.N[i]? = some x := by rfl) (hx : Loc X.env.scope x := by first | exact Or.inl rfl | exact Or.inr rfl) (hf : X.fn x = true ∨ X.env.scope.names.lookup x = some .local := by first | exact .inl rfl | exact .inr rfl | assumption) :
    PG X (.Name x pos) (dG X (wgName i)) := PG.imp (pg_name hN hi hx hf) fun v σ H Q ⟨ρ, τ, S, d, R, W, er, r, h, p⟩ => p _ _ h ρ H _ (Ext.refl _ _) W (er.set r)
theorem dgs_nil : PGs X [] (dGs X wgNil) := PGs.imp pgs_nil fun vs σ H Q ⟨ρ, τ, S, ds, R, W, er, r, ⟨e, h⟩, p⟩ => by
  subst e
  refine ⟨?_, p _ _ h ρ H _ (Ext.refl _ _) W er⟩
  have := r.length
  simpa using this
theorem dgs_cons (h1 : PG X e (dG X wg)) (h2 : PGs X es (dGs X wgs)) (hs : (assignEach (e :: es) X.env).map (·.2) = assign e X.env :: (assignEach es X.env).map (·.2) := by rfl) : PGs X (e :: es) (dGs X (wgCons wg wgs)) :=
  PGs.imp (pgs_cons h1 h2 hs) fun vs σ H Q ⟨ρ, τ, S, ds, R, W, er, r, ⟨d, dr, e1, h⟩, p⟩ => by
    subst e1
    unfold VRs at r
    obtain ⟨v, vr, rfl, r1, r2⟩ := r
    exact ⟨v, vr, rfl, ρ, τ, S, d, _, W, er, r1, h, fun τ1 S1 h1 ρ1 H1 σ1 x1 W1 er1 => ⟨ρ1, τ1, S1, dr, R, W1, er1, r2.ext W.sep x1, h1, p.ext W1 x1⟩⟩
theorem dg_tup {k n : Nat} (hc : X.calm = true) (h : PGs X es (dGs X wgs)) (hn : (assignEach es X.env).length = n := by rfl) (hst : (assignEach es X.env).findIdx? (·.1) = none := by rfl) : PG X (.Tuple es k pos) (dG X (wgTup n wgs)) :=
  PG.imp (pg_tup hc h hn hst) fun v σ H Q ⟨ρ, τ, S, d, R, W, er, r, ⟨ds, e1, hl, h⟩, p⟩ => by
    subst e1
    obtain ⟨a, vs, rfl, h1, h2⟩ := r.tup_of
    exact ⟨a, vs, rfl, h1.sq, h2.length.trans hl, ρ, τ, S, ds, R, W, er, h2, h, p⟩
theorem dg_sub {op : DSet} (ho : PE X o (dE X wo)) (hi : PE X i (dE X wi)) (hs : PSet X (rSetD X op))
    (ha : ∀ v, assign (.Subscript o i pos) X.env v = (do
      let ov ← holding [v] (eval o X.env)
      let iv ← holding [v, ov] (eval i X.env)
      standAt pos
      holding [v, ov, iv] (setItem ov iv v)
      release [v, ov, iv] []) := by intro _; rfl) : PG X (.Subscript o i pos) (dG X (wgSub wo wi op)) :=
  PG.imp (pg_sub ho hi hs ha) fun v σ H Q ⟨ρ, τ, S, d, R, W, er, r, h, p⟩ => ⟨ρ, τ, S, _, W, er, h, fun d1 S1 h1 ρ1 H1 v1 x1 W1 r1 => ⟨ρ1, τ, S1, _, W1, er.ext W.sep x1, h1, fun d2 S2 h2 ρ2 H2 v2 x2 W2 r2 =>
    ⟨ρ2, S2, d1, d2, d, _, W2, r1.ext W1.sep x2, r2, (r.ext W.sep x1).ext W1.sep x2, h2, fun S3 h3 ρ3 H3 x3 W3 => ((p.ext W1 x1).ext W2 x2) _ _ h3 ρ3 H3 σ x3 W3 (((er.ext W.sep x1).ext W1.sep x2).ext W2.sep x3)⟩⟩⟩

/-! ### assignments -/
def wAsg (we : WE) (g : WG) : WS := fun R τ S => we τ S fun d S1 => g d τ S1 R.nx
theorem asg_pass {σ : St} {H : Hp} {D : Ends} (h : dS X (wAsg we wg) D σ H) : tAsg (dE X we) (dG X wg) D σ H := by
  obtain ⟨ρ, τ, S, R, W, er, h, p1, p2, p3, p4⟩ := h
  exact ⟨ρ, τ, S, _, W, er, h, fun d S1 h1 ρ1 H1 v x1 W1 r => ⟨ρ1, τ, S1, d, R.nx, W1, er.ext W.sep x1, r, h1, p1.ext W1 x1⟩⟩
theorem ds_asg {tg : Expr} (he : PE X e (dE X we)) (hg : PG X tg (dG X wg)) (hs : swapsWithSole [tg] e pos.line X.env = pure false := by rfl) (hw : swappedStores [tg] e X.env = pure none := by rfl)
    (h1 : (assignEach [tg] X.env).map (·.2) = [assign tg X.env] := by rfl) : PS X (.Assign [tg] e pos) (dS X (wAsg we wg)) := PS.imp (ps_asg he hg hs hw h1) fun _ _ _ => asg_pass
theorem ds_set {i : Nat} {x : Str} {pos' : Pos} (hN : X.N.Nodup) (he : PE X e (dE X we)) (hi : X.N[i]? = some x := by rfl) (hx : Loc X.env.scope x := by first | exact Or.inl rfl | exact Or.inr rfl) (hs : swapsWith e (some (.Name x pos')) pos.line X.env = pure false := by rfl)
    (hf : X.fn x = true ∨ X.env.scope.names.lookup x = some .local := by first | exact .inl rfl | exact .inr rfl | assumption) : PS X (.Assign [.Name x pos'] e pos) (dS X (wAsg we (wgName i))) :=
  PS.imp (ps_set hN hi hx he hs hf) fun D σ H ⟨ρ, τ, S, R, W, er, h, p1, p2, p3, p4⟩ => ⟨ρ, τ, S, _, W, er, h, fun d S1 h1 ρ1 H1 v x1 W1 r => p1 _ _ h1 ρ1 H1 _ x1 W1 ((er.ext W.sep x1).set r)⟩
/-- a, b = x, y -/
def wPar (i j : Nat) (wr : WA) : WS := fun R τ S => wr τ S fun ds S1 => ∃ d c, ds = [d, c] ∧ R.nx ((τ.set i (some d)).set j (some c)) S1
theorem ds_par {i j : Nat} {x y : Str} {a b : Expr} {wr : WA} {px py pt : Pos} {kt k2 pt2} (hc : X.calm = true) (hN : X.N.Nodup) (hi : X.N[i]? = some x) (hj : X.N[j]? = some y) (hij : i ≠ j)
    (hx : X.env.scope.names.lookup x = some .local) (hy : X.env.scope.names.lookup y = some .local) (ha : PA X [a, b] (dA X wr))
    (hw : swappedStores [.Tuple [.Name x px, .Name y py] kt pt] (.Tuple [a, b] k2 pt2) X.env = pure (some [x, y]))
    (hs : swapsWithSole [.Tuple [.Name x px, .Name y py] kt pt] (.Tuple [a, b] k2 pt2) pos.line X.env = pure false := by rfl) :
    PS X (.Assign [.Tuple [.Name x px, .Name y py] kt pt] (.Tuple [a, b] k2 pt2) pos) (dS X (wPar i j wr)) :=
  PS.imp (ps_par hc hN hi hj hij hx hy ha hw hs) fun D σ H ⟨ρ, τ, S, R, W, er, h, p1, p2, p3, p4⟩ => ⟨ρ, τ, S, _, W, er, h, fun ds S1 ⟨d, c, e1, h1⟩ ρ1 H1 vs x1 W1 r => by
    subst e1
    unfold VRs at r
    obtain ⟨v, vr, rfl, r1, r2⟩ := r
    unfold VRs at r2
    obtain ⟨v2, vr2, rfl, r2, r3⟩ := r2
    have e3 : vr2 = [] := by unfold VRs at r3; exact r3
    subst e3
    exact ⟨v, v2, rfl, p1 _ _ h1 ρ1 H1 _ x1 W1 (((er.ext W.sep x1).set r1).set r2)⟩⟩
/-- x op= e -/
def rIpD (X : Cx) (op : DOp) : TIp := fun x y H Q => rD X op x y H Q
def wAug (i : Nat) (we : WE) (op : DOp) : WS := fun R τ S => ∃ d, τ[i]? = some (some d) ∧ we τ S fun c S1 => op d c S1 fun z S2 => R.nx (τ.set i (some z)) S2
theorem ds_aug {i : Nat} {x : Str} {op : Operator} {o : DOp} {pos' : Pos} (hN : X.N.Nodup) (he : PE X e (dE X we)) (ho : PIp X op (rD X o)) (hi : X.N[i]? = some x := by rfl) (hx : Loc X.env.scope x := by first | exact Or.inl rfl | exact Or.inr rfl)
    (hf : X.fn x = true ∨ X.env.scope.names.lookup x = some .local := by first | exact .inl rfl | exact .inr rfl | assumption) : PS X (.AugAssign (.Name x pos') op e pos) (dS X (wAug i we o)) :=
  PS.imp (ps_aug hN hi hx he ho hf) fun D σ H ⟨ρ, τ, S, R, W, er, ⟨d, h0, h⟩, p1, p2, p3, p4⟩ => by
    obtain ⟨v, h2, r⟩ := er.2 i d h0
    exact ⟨v, h2, ρ, τ, S, _, W, er, h, fun c S1 h1 ρ1 H1 y x1 W1 r1 => ⟨ρ1, S1, d, c, _, W1, r.ext W.sep x1, r1, h1, fun z S2 h2 ρ2 H2 zv x2 W2 r2 => (p1.ext W1 x1) _ _ h2 ρ2 H2 _ x2 W2 (((er.ext W.sep x1).ext W1.sep x2).set r2)⟩⟩
/-- o[i] op= e -/
def wAugS (wo wi we : WE) (get op : DOp) (set : DSet) : WS := fun R τ S => wo τ S fun d1 S1 => wi τ S1 fun d2 S2 => get d1 d2 S2 fun d3 S3 => we τ S3 fun d4 S4 => op d3 d4 S4 fun d5 S5 => set d1 d2 d5 S5 fun S6 => R.nx τ S6
theorem ds_augS {op : Operator} {get ip : DOp} {set : DSet} {tpos : Pos} (ho : PE X o (dE X wo)) (hi : PE X i (dE X wi)) (hg : PGet X (rD X get)) (he : PE X e (dE X we)) (hp : PIp X op (rD X ip)) (hs : PSet X (rSetD X set))
    (ha : ∀ ov iv new, augStore i ov iv new = (do holding [new, ov, iv] (setItem ov iv new); release [new, ov, iv] []; pure .next) := by intros; rfl) : PS X (.AugAssign (.Subscript o i tpos) op e pos) (dS X (wAugS wo wi we get ip set)) :=
  PS.imp (ps_augS ho hi hg he hp hs ha) fun D σ H ⟨ρ, τ, S, R, W, er, h, p1, p2, p3, p4⟩ => ⟨ρ, τ, S, _, W, er, h, fun d1 S1 h1 ρ1 H1 v1 x1 W1 r1 => ⟨ρ1, τ, S1, _, W1, er.ext W.sep x1, h1, fun d2 S2 h2 ρ2 H2 v2 x2 W2 r2 =>
    ⟨ρ2, S2, d1, d2, _, W2, r1.ext W1.sep x2, r2, h2, fun d3 S3 h3 ρ3 H3 v3 x3 W3 r3 => ⟨ρ3, τ, S3, _, W3, ((er.ext W.sep x1).ext W1.sep x2).ext W2.sep x3, h3, fun d4 S4 h4 ρ4 H4 v4 x4 W4 r4 =>
      ⟨ρ4, S4, d3, d4, _, W4, r3.ext W3.sep x4, r4, h4, fun d5 S5 h5 ρ5 H5 v5 x5 W5 r5 => ⟨ρ5, S5, d1, d2, d5, _, W5, (((r1.ext W1.sep x2).ext W2.sep x3).ext W3.sep x4).ext W4.sep x5, ((r2.ext W2.sep x3).ext W3.sep x4).ext W4.sep x5, r5, h5, fun S6 h6 ρ6 H6 x6 W6 =>
        (((((p1.ext W1 x1).ext W2 x2).ext W3 x3).ext W4 x4).ext W5 x5) _ _ h6 ρ6 H6 σ x6 W6 ((((((er.ext W.sep x1).ext W1.sep x2).ext W2.sep x3).ext W3.sep x4).ext W4.sep x5).ext W5.sep x6)⟩⟩⟩⟩⟩⟩
end

/-! ### while -/
def whileN (c : WT) (b : WS) : Nat → WS
  | 0 => fun _ _ _ => False
  | n + 1 => fun R τ S => c τ S fun v S1 => if v = true then b { nx := fun τ' S' => whileN c b n R τ' S', ct := fun τ' S' => whileN c b n R τ' S', bk := R.nx, rt := R.rt } τ S1 else R.nx τ S1
def wWhile (c : WT) (b : WS) : WS := fun R τ S => ∃ n, whileN c b n R τ S
theorem ds_while {X : Cx} {pos : Pos} {c : Expr} {body : List Stmt} {wc : WT} {wb : WS} (hp : PassesOwn (model X.prog X.w) X.A X.env X.xe) (hc : PT X c (dT X wc)) (hb : PSs X body (dS X wb)) : PS X (.While c body [] pos) (dS X (wWhile wc wb)) := by
  refine PS.imp (ps_while hp hc hb) fun D σ0 H0 ⟨ρ0, τ0, S0, R, W0, er0, ⟨n0, h0⟩, p1, p2, p3, p4⟩ => ?_
  refine ⟨fun m σ H => ∃ ρ τ S, XW X ρ S H ∧ ER X.K ρ H τ σ ∧ Ext ρ0 H0 ρ H ∧ whileN wc wb m R τ S, ⟨n0, ρ0, τ0, S0, W0, er0, Ext.refl _ _, h0⟩, ?_⟩
  rintro m σ H ⟨ρ, τ, S, W, er, x, h⟩
  cases m with
  | zero => exact h.elim
  | succ n =>
    refine ⟨ρ, τ, S, _, W, er, h, fun v S1 h1 ρ1 H1 x1 W1 => ?_⟩
    have x' := x.trans W.sep x1
    cases v with
    | true =>
      dsimp only
      rw [if_pos rfl] at h1 ⊢
      refine ⟨fun σ' H' => ∃ ρ τ S, XW X ρ S H' ∧ ER X.K ρ H' τ σ' ∧ Ext ρ0 H0 ρ H' ∧ whileN wc wb n R τ S, fun σ' H' q => ⟨n, Nat.lt_succ_self n, q⟩, ?_⟩
      exact ⟨ρ1, τ, S1, _, W1, er.ext W.sep x1, h1, fun τ2 S2 h2 ρ2 H2 σ2 x2 W2 er2 => ⟨ρ2, τ2, S2, W2, er2, x'.trans W1.sep x2, h2⟩, p2.ext W1 x', p1.ext W1 x', fun τ2 S2 h2 ρ2 H2 σ2 x2 W2 er2 => ⟨ρ2, τ2, S2, W2, er2, x'.trans W1.sep x2, h2⟩⟩
    | false =>
      dsimp only
      rw [if_neg Bool.false_ne_true] at h1 ⊢
      exact (p1.ext W1 x') _ _ h1 ρ1 H1 σ (Ext.refl _ _) W1 (er.ext W.sep x1)

/-! ### what is walked -/
/-- the items of a walk, and what must stay true of the store while it goes on -/
abbrev WI := DEnv → Sto → (List D → (Sto → Prop) → Sto → Prop) → Prop
structure JR (X : Cx) (J : It) (ρ0 : List Addr) (H0 : Hp) (items : List D) (chk : Sto → Prop) : Prop where
  go : ∀ (i : Nat) (d : D) (ρ : List Addr) (S : Sto) (H : Hp), Ext ρ0 H0 ρ H → XW X ρ S H → chk S → items[i]? = some d → J.go i H ∧ ∀ x H', J.yld i H x H' → Ext ρ H ρ H' ∧ XW X ρ S H' ∧ VR X.K ρ H' d x
  stop : ∀ (i : Nat) (ρ : List Addr) (S : Sto) (H : Hp), Ext ρ0 H0 ρ H → XW X ρ S H → chk S → items.length ≤ i → J.stop i H
def dI (X : Cx) (w : WI) : TI := fun σ H R => ∃ ρ τ S Rd, XW X ρ S H ∧ ER X.K ρ H τ σ ∧ w τ S Rd ∧ ∀ items chk S', Rd items chk S' → ∀ ρ' H' J, Ext ρ H ρ' H' → XW X ρ' S' H' → JR X J ρ' H' items chk → R J H'
theorem PI.imp {X : Cx} {tg e : Expr} {t t' : TI} (h : PI X tg e t) (k : ∀ σ H R, t' σ H R → t σ H R) : PI X tg e t' := ⟨fun pins s σ H R I q => h.run pins s σ H R I (k σ H R q)⟩
theorem PI.or {X : Cx} {tg e : Expr} {t t' : TI} (h : PI X tg e t) (h' : PI X tg e t') : PI X tg e (fun σ H R => t σ H R ∨ t' σ H R) := ⟨fun pins s σ H R I q => q.elim (h.run pins s σ H R I) (h'.run pins s σ H R I)⟩
def wiOr (w w' : WI) : WI := fun τ S R => w τ S R ∨ w' τ S R
theorem ID.or {X : Cx} {tg e : Expr} {w w' : WI} (h : PI X tg e (dI X w)) (h' : PI X tg e (dI X w')) : PI X tg e (dI X (wiOr w w')) :=
  PI.imp (PI.or h h') fun σ H R ⟨ρ, τ, S, Rd, W, er, q, p⟩ => q.imp (fun q => ⟨ρ, τ, S, Rd, W, er, q, p⟩) fun q => ⟨ρ, τ, S, Rd, W, er, q, p⟩

/-! ### for -/
/-- the body over the items, one by one -/
def forGo (chk : Sto → Prop) (g : WG) (b : WS) (R : DEnds) : List D → DEnv → Sto → Prop
  | [], τ, S => chk S ∧ R.nx τ S
  | d :: r, τ, S => chk S ∧ g d τ S fun τ1 S1 => b { nx := fun τ' S' => forGo chk g b R r τ' S', ct := fun τ' S' => forGo chk g b R r τ' S', bk := R.nx, rt := R.rt } τ1 S1
def wFor (wi : WI) (g : WG) (b : WS) : WS := fun R τ S => wi τ S fun items chk S1 => forGo chk g b R items τ S1
theorem forGo_chk {chk : Sto → Prop} {g : WG} {b : WS} {R : DEnds} : ∀ {items : List D} {τ : DEnv} {S : Sto}, forGo chk g b R items τ S → chk S
  | [], _, _, h => h.1
  | _ :: _, _, _, h => h.1
theorem ds_for {X : Cx} {pos : Pos} {tg iter : Expr} {body : List Stmt} {wi : WI} {wg : WG} {wb : WS} (hp : PassesOwn (model X.prog X.w) X.A X.env X.xe) (hc : X.calm = true) (hi : PI X tg iter (dI X wi)) (hg : PG X tg (dG X wg)) (hb : PSs X body (dS X wb))
    (hs : ∀ x, foldedSetIterable iter X.env x = pure x := by intro _; rfl) : PS X (.For tg iter body [] pos) (dS X (wFor wi wg wb)) := by
  refine PS.imp (ps_for hp hc hi hg hb hs) fun D σ0 H0 ⟨ρ0, τ0, S0, R, W0, er0, h0, p1, p2, p3, p4⟩ => ?_
  refine ⟨ρ0, τ0, S0, _, W0, er0, h0, fun items chk S1 h1 ρ1 H1 J x1 W1 jr => ?_⟩
  refine ⟨fun i m σ H => ∃ ρ τ S, XW X ρ S H ∧ ER X.K ρ H τ σ ∧ Ext ρ1 H1 ρ H ∧ m = items.length - i ∧ i ≤ items.length ∧ forGo chk wg wb R (items.drop i) τ S,
    ⟨items.length, ρ1, τ0, S1, W1, er0.ext W0.sep x1, Ext.refl _ _, rfl, Nat.zero_le _, by rw [List.drop_zero]; exact h1⟩, ?_⟩
  rintro i m σ H ⟨ρ, τ, S, W, er, x, rfl, hi', h⟩
  have xx := x1.trans W1.sep x
  by_cases hlt : i < items.length
  · rw [List.drop_eq_getElem_cons hlt] at h
    have hd : items[i]? = some items[i] := List.getElem?_eq_getElem hlt
    obtain ⟨go, yld⟩ := jr.go i _ ρ S H x W h.1 hd
    refine .inr ⟨go, fun σ' H' => ∃ ρ τ S, XW X ρ S H' ∧ ER X.K ρ H' τ σ' ∧ Ext ρ1 H1 ρ H' ∧ forGo chk wg wb R (items.drop (i + 1)) τ S,
      fun σ' H' ⟨ρ, τ, S, q1, q2, q3, q4⟩ => ⟨items.length - (i + 1), by omega, ρ, τ, S, q1, q2, q3, rfl, hlt, q4⟩, fun y H' hy => ?_⟩
    obtain ⟨x2, W2, r2⟩ := yld y H' hy
    refine ⟨ρ, τ, S, _, _, W2, er.ext W.sep x2, r2, h.2, fun τ3 S3 h3 ρ3 H3 σ3 x3 W3 er3 => ?_⟩
    have x23 := x2.trans W2.sep x3
    have xt := xx.trans W.sep x23
    exact ⟨ρ3, τ3, S3, _, W3, er3, h3, fun τ4 S4 h4 ρ4 H4 σ4 x4 W4 er4 => ⟨ρ4, τ4, S4, W4, er4, (x.trans W.sep x23).trans W3.sep x4, h4⟩, p2.ext W3 xt, p1.ext W3 xt,
      fun τ4 S4 h4 ρ4 H4 σ4 x4 W4 er4 => ⟨ρ4, τ4, S4, W4, er4, (x.trans W.sep x23).trans W3.sep x4, h4⟩⟩
  · have e : i = items.length := by omega
    subst e
    rw [List.drop_length] at h
    exact .inl ⟨jr.stop _ ρ S H x W h.1 (Nat.le_refl _), (p1.ext W xx) _ _ h.2 ρ H σ (Ext.refl _ _) W er⟩

/-! ### list comprehensions -/
def wipeD (τ : DEnv) : List Nat → DEnv
  | [] => τ
  | v :: vs => (wipeD τ vs).set v none
theorem ER.wipe {K : PySem.W.Frag} {ρ : List Addr} {H : Hp} {τ : DEnv} {σ : St} (er : ER K ρ H τ σ) : ∀ vs : List Nat, ER K ρ H (wipeD τ vs) (L2.wipe σ vs)
  | [] => er
  | v :: vs => by
    have ih := ER.wipe er vs
    unfold wipeD L2.wipe
    refine ⟨by simp [ih.1], fun j d h => ?_⟩
    by_cases hj : v = j
    · subst hj
      by_cases hl : v < (wipeD τ vs).length
      · rw [List.getElem?_set_self hl] at h
        cases h
      · rw [List.getElem?_eq_none (by simpa using hl)] at h
        cases h
    · rw [List.getElem?_set_ne hj] at h ⊢
      exact ih.2 j d h
/-- the items taken one by one; acc: what is made so far -/
def lcGo (chk : Sto → Prop) (g : WG) (t : WT) (e : WE) (τ : DEnv) (R : DQ) : List D → List D → Sto → Prop
  | [], acc, S => chk S ∧ R (.loc S.length) (S ++ [.lst acc])
  | d :: r, acc, S => chk S ∧ g d τ S fun τ1 S1 => t τ1 S1 fun b S2 => if b = true then e τ1 S2 fun y S3 => acc.length < sizeLine ∧ lcGo chk g t e τ R r (acc ++ [y]) S3 else lcGo chk g t e τ R r acc S2
def wLc (wi : WI) (g : WG) (t : WT) (e : WE) (vs : List Nat) : WE := fun τ S R => wi τ S fun items chk S1 => lcGo chk g t e (wipeD τ vs) R items [] S1
end Dl

namespace Dl
open PySem L2

/-- a comprehension's target that stores in the places vs alone -/
def Own (X : Cx) (g : TG) (wg : WG) (vs : List Nat) : Prop :=
  ∀ (ρ : List Addr) (S : Sto) (H : Hp) (τ : DEnv) (σ : St) (d : D) (v : V) (R : DEnv → Sto → Prop) (Q : St → Hp → Prop), XW X ρ S H → ER X.K ρ H τ σ → VR X.K ρ H d v → wg d τ S R →
    (∀ τ' σ', R τ' S → ER X.K ρ H τ' σ' → L2.wipe σ' vs = L2.wipe σ vs → Q σ' H) → g v σ H Q
theorem wipe_out {i : Nat} {o : Option V} : ∀ (ws : List Nat) (σ : St), i ∉ ws → L2.wipe (σ.set i o) ws = (L2.wipe σ ws).set i o
  | [], σ, _ => rfl
  | w :: ws, σ, hw => by
    unfold L2.wipe
    rw [wipe_out ws σ (fun z => hw (List.mem_cons_of_mem _ z)), List.set_comm _ _ (fun z => hw (by rw [z]; exact List.mem_cons_self))]
theorem wipe_set {σ : St} {i : Nat} {o : Option V} : ∀ {vs : List Nat}, i ∈ vs → L2.wipe (σ.set i o) vs = L2.wipe σ vs
  | v :: vs, h => by
    unfold L2.wipe
    by_cases hi : i ∈ vs
    · rw [wipe_set hi]
    · have e : i = v := by
        rcases List.mem_cons.mp h with e | e
        · exact e
        · exact absurd e hi
      subst e
      rw [wipe_out vs σ hi, List.set_set]
theorem wipe_wipe (σ : St) : ∀ vs : List Nat, L2.wipe (L2.wipe σ vs) vs = L2.wipe σ vs
  | [] => rfl
  | v :: vs => by
    show (L2.wipe ((L2.wipe σ vs).set v none) vs).set v none = (L2.wipe σ vs).set v none
    by_cases hi : v ∈ vs
    · rw [wipe_set hi, wipe_wipe σ vs]
    · rw [wipe_out vs _ hi, wipe_wipe σ vs, List.set_set]
theorem own_name {X : Cx} {i : Nat} {vs : List Nat} (h : i ∈ vs) : Own X (gName i) (wgName i) vs := fun ρ S H τ σ d v R Q W er r q k => k _ _ q (er.set r) (wipe_set h)
theorem own_tup2 {X : Cx} {i j : Nat} {vs : List Nat} (h : i ∈ vs) (h2 : j ∈ vs) : Own X (gTup X.K 2 (gCons (gName i) (gCons (gName j) gNil))) (wgTup 2 (wgCons (wgName i) (wgCons (wgName j) wgNil))) vs :=
  fun ρ S H τ σ d v R Q W er r ⟨ds, e1, hl, q⟩ k => by
    subst e1
    obtain ⟨a, us, rfl, h3, h4⟩ := r.tup_of
    obtain ⟨d1, r1, rfl, d2, r2, rfl, rfl, q⟩ := q
    unfold VRs at h4
    obtain ⟨v1, vr1, rfl, h5, h6⟩ := h4
    unfold VRs at h6
    obtain ⟨v2, vr2, rfl, h7, h8⟩ := h6
    have e3 : vr2 = [] := by unfold VRs at h8; exact h8
    subst e3
    exact ⟨a, _, rfl, h3.sq, rfl, v1, _, rfl, v2, _, rfl, rfl, k _ _ q ((er.set h5).set h7) (by rw [wipe_set h2, wipe_set h])⟩
theorem own_tup3 {X : Cx} {i j m : Nat} {vs : List Nat} (h : i ∈ vs) (h2 : j ∈ vs) (hm : m ∈ vs) : Own X (gTup X.K 3 (gCons (gName i) (gCons (gName j) (gCons (gName m) gNil)))) (wgTup 3 (wgCons (wgName i) (wgCons (wgName j) (wgCons (wgName m) wgNil)))) vs :=
  fun ρ S H τ σ d v R Q W er r ⟨ds, e1, hl, q⟩ k => by
    subst e1
    obtain ⟨a, us, rfl, h3, h4⟩ := r.tup_of
    obtain ⟨d1, r1, rfl, d2, r2, rfl, d3, r3, rfl, rfl, q⟩ := q
    unfold VRs at h4
    obtain ⟨v1, vr1, rfl, h5, h6⟩ := h4
    unfold VRs at h6
    obtain ⟨v2, vr2, rfl, h7, h8⟩ := h6
    unfold VRs at h8
    obtain ⟨v3, vr3, rfl, h9, h10⟩ := h8
    have e3 : vr3 = [] := by unfold VRs at h10; exact h10
    subst e3
    exact ⟨a, _, rfl, h3.sq, rfl, v1, _, rfl, v2, _, rfl, v3, _, rfl, rfl, k _ _ q (((er.set h5).set h7).set h9) (by rw [wipe_set hm, wipe_set h2, wipe_set h])⟩

/-- the tests of a comprehension -/
theorem PTs.imp {X : Cx} {es : List Expr} {t t' : TT} (h : PTs X es t) (k : ∀ σ H Q, t' σ H Q → t σ H Q) : PTs X es t' := ⟨fun pins s σ H Q I q => h.run pins s σ H Q I (k σ H Q q)⟩
def wYes : WT := fun _ S R => R true S
theorem dts_nil {X : Cx} : PTs X [] (dT X wYes) := PTs.imp pts_nil fun σ H Q ⟨ρ, τ, S, R, W, er, h, p⟩ => p _ _ h ρ H (Ext.refl _ _) W
theorem dts_one {X : Cx} {c : Expr} {w : WT} (h : PT X c (dT X w)) : PTs X [c] (dT X w) := pts_one h

theorem lc_pass {X : Cx} {wi : WI} {g : TG} {wg : WG} {wt : WT} {we : WE} {vs : List Nat} (ow : Own X g wg vs) {σ : St} {H : Hp} {Q : VK} (h : dE X (wLc wi wg wt we vs) σ H Q) : tLc (dI X wi) g (dT X wt) (dE X we) vs σ H Q := by
  obtain ⟨ρ0, τ0, S0, R, W0, er0, h0, p⟩ := h
  refine ⟨ρ0, τ0, S0, _, W0, er0, h0, fun items chk S1 h1 ρ1 H1 J x1 W1 jr => fun D hD => ?_⟩
  have er1 := (er0.ext W0.sep x1).wipe vs
  have pq := p.ext W1 x1
  refine ⟨fun i m H => ∃ ρ S acc accV, XW X ρ S H ∧ Ext ρ1 H1 ρ H ∧ D ∉ ρ ∧ H D = some (.lst accV) ∧ VRs X.K ρ H acc accV ∧ lcGo chk wg wt we (wipeD τ0 vs) R (items.drop i) acc S ∧ m = items.length - i ∧ i ≤ items.length,
    ⟨items.length, ρ1, S1, [], [], W1.laid hD, ext_new hD, W1.notin hD, upd_same, .nil, by rw [List.drop_zero]; exact h1, rfl, Nat.zero_le _⟩, ?_⟩
  rintro i m H ⟨ρ, S, acc, accV, W, x, hDn, hDH, ra, hl, rfl, hi⟩
  by_cases hlt : i < items.length
  · rw [List.drop_eq_getElem_cons hlt] at hl
    have hd : items[i]? = some items[i] := List.getElem?_eq_getElem hlt
    obtain ⟨go, yld⟩ := jr.go i _ ρ S H x W hl.1 hd
    refine .inr ⟨go, fun H' => ∃ ρ S acc accV, XW X ρ S H' ∧ Ext ρ1 H1 ρ H' ∧ D ∉ ρ ∧ H' D = some (.lst accV) ∧ VRs X.K ρ H' acc accV ∧ lcGo chk wg wt we (wipeD τ0 vs) R (items.drop (i + 1)) acc S,
      fun H' ⟨ρ, S, acc, accV, q1, q2, q3, q4, q5, q6⟩ => ⟨items.length - (i + 1), by omega, ρ, S, acc, accV, q1, q2, q3, q4, q5, q6, rfl, hlt⟩, fun y H' hy => ?_⟩
    obtain ⟨x2, W2, r2⟩ := yld y H' hy
    have xa := x.trans W.sep x2
    have hDH2 := x2.keep D _ hDH hDn
    have ra2 := VRs.ext W.sep x2 _ _ ra
    refine ow ρ S H' _ _ _ y _ _ W2 (er1.ext W1.sep xa) r2 hl.2 fun τ' σ' h3 er3 wp => ⟨wp.trans (wipe_wipe _ _), ?_⟩
    refine ⟨ρ, τ', S, _, W2, er3, h3, fun b S4 h4 ρ4 H4 x4 W4 => ?_⟩
    have keepD : ∀ {ρa ρb : List Addr} {Ha Hb : Hp} {u : HO}, Ext ρa Ha ρb Hb → D ∉ ρa → Ha D = some u → D ∉ ρb ∧ Hb D = some u := fun {ρa ρb Ha Hb u} e n hh => by
      refine ⟨fun hm => ?_, e.keep D _ hh n⟩
      obtain ⟨more, rfl, hmore⟩ := e.pre
      rcases List.mem_append.mp hm with z | z
      · exact n z
      · have := hmore D z
        rw [hh] at this
        cases this
    obtain ⟨hDn4, hDH4⟩ := keepD x4 hDn hDH2
    have ra4 := VRs.ext W2.sep x4 _ _ ra2
    have xb := xa.trans W2.sep x4
    cases b with
    | false =>
      dsimp only
      rw [if_neg Bool.false_ne_true] at h4 ⊢
      exact ⟨ρ4, S4, acc, accV, W4, xb, hDn4, hDH4, ra4, h4⟩
    | true =>
      dsimp only
      rw [if_pos rfl] at h4 ⊢
      refine ⟨ρ4, τ', S4, _, W4, er3.ext W2.sep x4, h4, fun z S5 ⟨hz, h5⟩ ρ5 H5 zv x5 W5 r5 => ?_⟩
      obtain ⟨hDn5, hDH5⟩ := keepD x5 hDn4 hDH4
      have ra5 := VRs.ext W4.sep x5 _ _ ra4
      have xc := xb.trans W4.sep x5
      have vx : VX ρ5 H5 ρ5 (upd H5 D (.lst (accV ++ [zv]))) := vx_upd hDH5 (fun vs q => by cases q) (fun a b q => by cases q)
      refine ⟨accV, hDH5, by rw [ra.length]; exact hz, ρ5, S5, acc ++ [z], accV ++ [zv], W5.aside hDn5 hDH5 (fun vs q => by cases q) (fun a b q => by cases q), ⟨xc.pre, fun a o ha hn => ?_⟩, hDn5, upd_same, VRs.vx vx _ _ (ra5.snoc r5), h5⟩
      have ne : a ≠ D := fun e => by
        rw [e, hD] at ha
        cases ha
      rw [upd_ne ne]
      exact xc.keep a o ha hn
  · have e : i = items.length := by omega
    subst e
    rw [List.drop_length] at hl
    refine .inl ⟨jr.stop _ ρ S H x W hl.1 (Nat.le_refl _), ?_⟩
    have vx : VX ρ H (ρ ++ [D]) H := ⟨fun l a h => by
      rw [List.getElem?_append_left (List.getElem?_eq_some_iff.mp h).1]
      exact h, fun _ _ h => h, fun _ _ _ h => h⟩
    refine pq _ _ hl.2 (ρ ++ [D]) H _ ⟨?_, x.keep⟩ (W.adopt hDn ⟨accV, hDH, VRs.vx vx _ _ ra⟩) (.loc (by rw [← W.len]; exact List.getElem?_concat_length ..))
    obtain ⟨more, e, hmore⟩ := x.pre
    refine ⟨more ++ [D], by rw [e, List.append_assoc], fun a ha => ?_⟩
    rcases List.mem_append.mp ha with z | z
    · exact hmore a z
    · have e2 : a = D := by simpa using z
      rw [e2]
      exact hD
section
variable {X : Cx} {elt tg iter : Expr} {ifs : List Expr} {scope : Scope} {own : List (Str × Nat)} {pos spos : Pos} {wi : WI} {g : TG} {wg : WG} {wt : WT} {we : WE}
theorem de_lc (ow : Own X g wg (own.map (·.2))) (hc : X.calm = true) (hN : X.N.Nodup) (hi : PI X tg iter (dI X wi)) (ok : BlkOk X.N X.env.scope scope own)
    (hg : ∀ (s : Shared) (H : Hp) (C : Addr) (cl : List (Str × Addr)) (fp : List Addr), PG (X.blk s H scope (compEnvC scope cl C X.env) fp) tg g) (ht : ∀ (s : Shared) (H : Hp) (C : Addr) (cl : List (Str × Addr)) (fp : List Addr), PTs (X.blk s H scope (compEnvC scope cl C X.env) fp) ifs (dT X wt))
    (he : ∀ (s : Shared) (H : Hp) (C : Addr) (cl : List (Str × Addr)) (fp : List Addr), PE (X.blk s H scope (compEnvC scope cl C X.env) fp) elt (dE X we)) (hs : ∀ x, foldedSetIterable iter X.env x = pure x := by intro _; rfl) :
    PE X (.ListComp elt [⟨tg, iter, ifs, 0⟩] scope pos) (dE X (wLc wi wg wt we (own.map (·.2)))) := PE.imp (pe_lc hc hN hi ok hg ht he hs) fun _ _ _ => lc_pass ow
/-- name = [..] on one line -/
theorem ds_setLc (ow : Own X g wg (own.map (·.2))) {i : Nat} {y : Str} {py : Pos} (hc : X.calm = true) (hN : X.N.Nodup) (hy : X.N[i]? = some y) (hyl : X.env.scope.names.lookup y = some .local)
    (hsw : swapsWith (.ListComp elt [⟨tg, iter, ifs, 0⟩] scope pos) (some (.Name y py)) spos.line X.env = pure true) (hi : PI X tg iter (dI X wi)) (ok : BlkOk X.N X.env.scope scope own)
    (hg : ∀ (s : Shared) (H : Hp) (C : Addr) (cl : List (Str × Addr)) (fp : List Addr), PG (X.blk s H scope (compEnvC scope cl C X.env) fp) tg g) (ht : ∀ (s : Shared) (H : Hp) (C : Addr) (cl : List (Str × Addr)) (fp : List Addr), PTs (X.blk s H scope (compEnvC scope cl C X.env) fp) ifs (dT X wt))
    (he : ∀ (s : Shared) (H : Hp) (C : Addr) (cl : List (Str × Addr)) (fp : List Addr), PE (X.blk s H scope (compEnvC scope cl C X.env) fp) elt (dE X we)) (hs : ∀ x, foldedSetIterable iter X.env x = pure x := by intro _; rfl) :
    PS X (.Assign [.Name y py] (.ListComp elt [⟨tg, iter, ifs, 0⟩] scope pos) spos) (dS X (wAsg (wLc wi wg wt we (own.map (·.2))) (wgName i))) :=
  PS.imp (ps_setLc hc hN hy hyl hsw hi ok hg ht he hs) fun D σ H ⟨ρ, τ, S, R, W, er, h, p1, p2, p3, p4⟩ =>
    lc_pass ow ⟨ρ, τ, S, _, W, er, h, fun d S1 h1 ρ1 H1 v x1 W1 r => p1 _ _ h1 ρ1 H1 _ x1 W1 ((er.ext W.sep x1).set r)⟩
end
end Dl

namespace Dl
open PySem L2

/-! ## a dict walked: its keys, its values -/
theorem relV_one {x y : V} {u : Value} (h1 : RelV x u) (h2 : RelV y u) : x = y := by
  cases x <;> cases y <;> simp only [RelV] at h1 h2
  all_goals first
    | rfl
    | (obtain ⟨t, h1⟩ := h1
       obtain ⟨t2, h2⟩ := h2
       rw [h1] at h2
       cases h2 <;> rfl)
    | (obtain ⟨t, h1⟩ := h1
       rw [h1] at h2
       cases h2 <;> rfl)
    | (obtain ⟨t2, h2⟩ := h2
       rw [h1] at h2
       cases h2 <;> rfl)
    | (rw [h1] at h2
       cases h2 <;> rfl)
theorem heap_size : ∀ n : Nat, ∃ h : Heap, h.objs.size = n
  | 0 => ⟨{ objs := #[] }, rfl⟩
  | n + 1 => by
    obtain ⟨h, e⟩ := heap_size n
    exact ⟨h.push { cls := .none, data := .fields #[] }, by simp [Heap.push, e]⟩
theorem dictObj_inj {a : Addr} {es es' : Array DictEntry} {ep ep' : Nat} (h : HO.ext (DictObj a es ep) = HO.ext (DictObj a es' ep')) : es = es' ∧ ep = ep' := by
  have h' : DictObj a es ep = DictObj a es' ep' := by
    injection h
  obtain ⟨h0, e⟩ := heap_size a
  have k : DictObj a es ep (h0.push { cls := .type "dict", data := .dict es ep }) := ⟨_, by rw [← e]; exact Heap.get?_push_size _ rfl, ⟨rfl, rfl, rfl⟩, rfl⟩
  rw [h'] at k
  obtain ⟨o, h1, _, h2⟩ := k
  rw [← e, Heap.get?_push_size _ rfl] at h1
  cases h1
  cases h2
  exact ⟨rfl, rfl⟩
/-- the dict at a with n entries and the count ep, one after the other: what f takes of each -/
def Itx (f : DictEntry → Value) (a : Addr) (n ep : Nat) : It :=
  ⟨fun i H => i < n ∧ ∃ es, H a = some (.ext (DictObj a es ep)) ∧ es.size = n ∧ ∀ u, es[i]?.map f = some u → ∃ x, RelV x u,
   fun i H x H' => H' = H ∧ ∃ es u, H a = some (.ext (DictObj a es ep)) ∧ es[i]?.map f = some u ∧ RelV x u,
   fun i H => n ≤ i ∧ ∃ es, H a = some (.ext (DictObj a es ep)) ∧ es.size = n⟩
section
variable {P : Program} {w : World} {K : PySem.W.Frag} {tg : Expr} {a : Addr} {n ep : Nat}
theorem turn_kx (it : Addr) : Turn P w K tg (Itx (·.key) a n ep) [it] it (fun i h => h.IsKeyIter it a i n ep) where
  mem := by simp
  obj := fun i h st b hb => by
    have eb : b = it := List.mem_singleton.mp hb
    subst eb
    obtain ⟨oi, e1, c1, d1⟩ := st
    exact ⟨oi, e1, fun z q => by rw [d1] at q; cases q⟩
  keep := fun i h h' st k => st.at fun oi e1 => k it (by simp) oi e1
  item := by
    intro X hP hw hK hc i pins s σ H E I hf st ⟨hi, es, hd, hz, hx⟩
    subst hP hw hK
    obtain ⟨g0, g1, g2, g3, g4, g5⟩ := hf it (by simp)
    obtain ⟨r1, _⟩ := I.hok a _ hd
    subst hz
    have he : es[i]?.map (·.key) = some es[i].key := by rw [Array.getElem?_eq_getElem hi]; rfl
    obtain ⟨x, rx⟩ := hx _ he
    refine wpAny_pyNext_keys_item_raw st r1 hi fun h' st' sb => ?_
    have I1 : L2.Inv X pins σ H { s with heap := h' } := I.turned (t' := s.toks) (fun b ob nb e1 => (sb.2 b nb).trans e1) g0 g1 g3 g4 g5
    obtain ⟨oi, e1, c1, d1⟩ := id st'
    exact ⟨_, rfl, go_of (s := { s with heap := h' }) e1 c1 d1 (by decide) ⟨x, H, I1, rx, ⟨rfl, es, _, hd, he, rx⟩, st', fun b hb => (hf b hb).1⟩⟩
  done := by
    intro X hP hw hK hc i pins s σ H E I hf st ⟨hi, es, hd, hz⟩
    subst hP hw hK
    obtain ⟨g0, g1, g2, g3, g4, g5⟩ := hf it (by simp)
    obtain ⟨r1, _⟩ := I.hok a _ hd
    subst hz
    exact wpAny_pyNext_keys_end_raw (I.ok.hd hc) st r1 hi fun h' eb => ⟨rfl, I.turned (t' := s.toks) (fun b ob nb e1 => eb b ob nb e1) g0 g1 g3 g4 g5⟩
  self := fun A i s Q E st h => wpAny_pyIter_keyiter st h
theorem turn_vx (it : Addr) : Turn P w K tg (Itx (·.val) a n ep) [it] it (fun i h => h.IsValIter it a i n ep) where
  mem := by simp
  obj := fun i h st b hb => by
    have eb : b = it := List.mem_singleton.mp hb
    subst eb
    obtain ⟨oi, e1, c1, d1⟩ := st
    exact ⟨oi, e1, fun z q => by rw [d1] at q; cases q⟩
  keep := fun i h h' st k => st.at fun oi e1 => k it (by simp) oi e1
  item := by
    intro X hP hw hK hc i pins s σ H E I hf st ⟨hi, es, hd, hz, hx⟩
    subst hP hw hK
    obtain ⟨g0, g1, g2, g3, g4, g5⟩ := hf it (by simp)
    obtain ⟨r1, _⟩ := I.hok a _ hd
    subst hz
    have he : es[i]?.map (·.val) = some es[i].val := by rw [Array.getElem?_eq_getElem hi]; rfl
    obtain ⟨x, rx⟩ := hx _ he
    refine wpAny_pyNext_values_item_raw st r1 hi fun h' st' sb => ?_
    have I1 : L2.Inv X pins σ H { s with heap := h' } := I.turned (t' := s.toks) (fun b ob nb e1 => (sb.2 b nb).trans e1) g0 g1 g3 g4 g5
    obtain ⟨oi, e1, c1, d1⟩ := id st'
    exact ⟨_, rfl, go_of (s := { s with heap := h' }) e1 c1 d1 (by decide) ⟨x, H, I1, rx, ⟨rfl, es, _, hd, he, rx⟩, st', fun b hb => (hf b hb).1⟩⟩
  done := by
    intro X hP hw hK hc i pins s σ H E I hf st ⟨hi, es, hd, hz⟩
    subst hP hw hK
    obtain ⟨g0, g1, g2, g3, g4, g5⟩ := hf it (by simp)
    obtain ⟨r1, _⟩ := I.hok a _ hd
    subst hz
    exact wpAny_pyNext_values_end_raw (I.ok.hd hc) st r1 hi fun h' eb => ⟨rfl, I.turned (t' := s.toks) (fun b ob nb e1 => eb b ob nb e1) g0 g1 g3 g4 g5⟩
  self := fun A i s Q E st h => wpAny_pyIter_valiter st h
end
/-- the dict at l, as it is walked -/
theorem jr_dict {X : Cx} {ρ : List Addr} {H : Hp} {l : Nat} {a : Addr} {n ep : Nat} {kvs : List (D × D)} {f : DictEntry → Value} {g : D × D → D} (h : ρ[l]? = some a) (hn : kvs.length = n)
    (hf : ∀ ρ' H' p e, EntR X.w X.K ρ' H' p e → ∃ v, VR X.K ρ' H' (g p) v ∧ RelV v (f e)) : JR X (Itx f a n ep) ρ H (kvs.map g) (fun S => S[l]? = some (.dct ep kvs)) where
  go := fun i d ρ' S' H' x W' hc hd => by
    obtain ⟨h1, h2, h3, es, h4, h5⟩ := W'.obj l a _ (x.get h) hc
    have hl : kvs.length = es.size := (Paired.length h5).trans Array.length_toList
    rw [List.getElem?_map] at hd
    cases q : kvs[i]? with
    | none =>
      rw [q] at hd
      cases hd
    | some p =>
      rw [q] at hd
      cases hd
      have hi : i < kvs.length := (List.getElem?_eq_some_iff.mp q).1
      have he : es[i]? = some es[i] := Array.getElem?_eq_getElem (by omega)
      have hp : EntR X.w X.K ρ' H' p es[i] := by
        have : ∀ {l1 : List (D × D)} {l2 : List DictEntry} {j : Nat} {y : D × D} {z : DictEntry}, Paired (EntR X.w X.K ρ' H') l1 l2 → l1[j]? = some y → l2[j]? = some z → EntR X.w X.K ρ' H' y z := by
          intro l1 l2 j y z hpr
          induction hpr generalizing j with
          | nil => intro e1 _; simp at e1
          | cons r t ih =>
            cases j with
            | zero =>
              intro e1 e2
              simp only [List.getElem?_cons_zero, Option.some.injEq] at e1 e2
              subst e1 e2
              exact r
            | succ j => exact ih
        exact this h5 q (by rw [Array.getElem?_toList]; exact he)
      obtain ⟨v, r1, r2⟩ := hf _ _ _ _ hp
      refine ⟨⟨by omega, es, h4, by omega, fun u hu => ?_⟩, fun y H2 ⟨e1, es', u, h6, h7, h8⟩ => ?_⟩
      · rw [he] at hu
        cases hu
        exact ⟨v, r2⟩
      · subst e1
        rw [h4] at h6
        obtain ⟨rfl, _⟩ := dictObj_inj (Option.some.inj h6)
        rw [he] at h7
        cases h7
        cases relV_one h8 r2
        exact ⟨Ext.refl _ _, W', r1⟩
  stop := fun i ρ' S' H' x W' hc hi => by
    obtain ⟨h1, h2, h3, es, h4, h5⟩ := W'.obj l a _ (x.get h) hc
    have hl : kvs.length = es.size := (Paired.length h5).trans Array.length_toList
    exact ⟨by simpa [hn] using hi, es, h4, by omega⟩
end Dl

namespace Dl
open PySem L2 RZ

/-! ## what is walked: lists, tuples, texts, ranges, zip, enumerate -/
theorem VRs.inj_get {K : PySem.W.Frag} {ρ : List Addr} {H : Hp} {ds : List D} {vs : List V} {i : Nat} {d : D} {x : V} (r : VRs K ρ H ds vs) (h : ds[i]? = some d) (hx : vs[i]? = some x) : VR K ρ H d x := by
  obtain ⟨v, h1, h2⟩ := r.get h
  rw [hx] at h1
  cases h1
  exact h2
section
variable {X : Cx}
/-- what stands still at an address as a list -/
def LstHas (X : Cx) (ρ0 : List Addr) (H0 : Hp) (a : Addr) (items : List D) (chk : Sto → Prop) : Prop := ∀ (ρ : List Addr) (S : Sto) (H : Hp), Ext ρ0 H0 ρ H → XW X ρ S H → chk S → ∃ vs, SqL X.K H a vs ∧ VRs X.K ρ H items vs
def TupHas (X : Cx) (ρ0 : List Addr) (H0 : Hp) (a : Addr) (items : List D) : Prop := ∀ (ρ : List Addr) (S : Sto) (H : Hp), Ext ρ0 H0 ρ H → XW X ρ S H → ∃ vs, SqT X.K H a vs ∧ VRs X.K ρ H items vs
theorem lstHas_loc {ρ : List Addr} {H : Hp} {l : Nat} {a : Addr} {xs : List D} (h : ρ[l]? = some a) : LstHas X ρ H a xs (fun S => S[l]? = some (.lst xs)) := fun ρ' S' H' x W' hc => by
  obtain ⟨vs, h1, h2⟩ := W'.obj l a _ (x.get h) hc
  exact ⟨vs, SqL.of h1, h2⟩
theorem lstHas_fls {ρ : List Addr} {S : Sto} {H : Hp} {a : Addr} {xs : List D} {vs : List V} (W : XW X ρ S H) (h : FlsAt X.K H a vs) (r : VRs X.K ρ H xs vs) : LstHas X ρ H a xs (fun _ => True) := fun ρ' S' H' x W' _ =>
  ⟨vs, (h.keep fun o q => (x.vx W.sep).frz a _ _ q).sq, VRs.ext W.sep x _ _ r⟩
theorem tupHas {ρ : List Addr} {S : Sto} {H : Hp} {a : Addr} {xs : List D} {vs : List V} (W : XW X ρ S H) (h : TupAt X.K H a vs) (r : VRs X.K ρ H xs vs) : TupHas X ρ H a xs := fun ρ' S' H' x W' =>
  ⟨vs, (h.keep fun q => (x.vx W.sep).tup a _ q).sq, VRs.ext W.sep x _ _ r⟩
theorem jr_list {ρ : List Addr} {H : Hp} {a : Addr} {xs : List D} {chk : Sto → Prop} (h : LstHas X ρ H a xs chk) : JR X (Itl X.K a) ρ H xs chk where
  go := fun i d ρ' S' H' x W' hc hd => by
    obtain ⟨vs, h1, h2⟩ := h ρ' S' H' x W' hc
    obtain ⟨v, h3, h4⟩ := h2.get hd
    refine ⟨⟨vs, v, h1, h3⟩, fun y H2 ⟨e, k⟩ => ?_⟩
    subst e
    exact ⟨Ext.refl _ _, W', h2.inj_get hd (k vs h1)⟩
  stop := fun i ρ' S' H' x W' hc hi => by
    obtain ⟨vs, h1, h2⟩ := h ρ' S' H' x W' hc
    exact ⟨vs, h1, by rw [h2.length]; exact hi⟩
theorem jr_tup {ρ : List Addr} {H : Hp} {a : Addr} {xs : List D} (h : TupHas X ρ H a xs) : JR X (Itt X.K a) ρ H xs (fun _ => True) where
  go := fun i d ρ' S' H' x W' hc hd => by
    obtain ⟨vs, h1, h2⟩ := h ρ' S' H' x W'
    obtain ⟨v, h3, h4⟩ := h2.get hd
    refine ⟨⟨vs, v, h1, h3⟩, fun y H2 ⟨e, k⟩ => ?_⟩
    subst e
    exact ⟨Ext.refl _ _, W', h2.inj_get hd (k vs h1)⟩
  stop := fun i ρ' S' H' x W' hc hi => by
    obtain ⟨vs, h1, h2⟩ := h ρ' S' H' x W'
    exact ⟨vs, h1, by rw [h2.length]; exact hi⟩
/-- the signs of a text -/
def signsD (x : Str) : List D := x.cps.toList.map fun c => D.str ⟨#[c]⟩
theorem jr_str {ρ : List Addr} {H : Hp} (x : Str) : JR X (Its x) ρ H (signsD x) (fun _ => True) where
  go := fun i d ρ' S' H' xx W' hc hd => by
    unfold signsD at hd
    rw [List.getElem?_map] at hd
    cases e : x.cps.toList[i]? with
    | none =>
      rw [e] at hd
      cases hd
    | some c =>
      rw [e] at hd
      cases hd
      have hl : i < x.cps.size := by
        have := (List.getElem?_eq_some_iff.mp e).1
        simpa using this
      have e2 : x.cps[i]? = some c := by simpa using e
      refine ⟨hl, fun y H2 ⟨e3, c', h4, h5⟩ => ?_⟩
      subst e3
      rw [e2] at h4
      cases h4
      rw [h5]
      exact ⟨Ext.refl _ _, W', .str⟩
  stop := fun i ρ' S' H' xx W' hc hi => by
    have : x.cps.size ≤ i := by
      unfold signsD at hi
      simpa using hi
    exact this
/-- a value walked -/
def iAny (K : PySem.W.Frag) (tl : TE) : TI := fun σ H R => tl σ H fun x H1 => (∃ a, x = .ref a ∧ (∃ xs, SqL K H1 a xs) ∧ R (Itl K a) H1) ∨ (∃ a, x = .ref a ∧ (∃ xs, SqT K H1 a xs) ∧ R (Itt K a) H1) ∨ (∃ z, x = .str z ∧ R (Its z) H1) ∨ ∃ a es ep, x = .ref a ∧ (a == sysModules) = false ∧ H1 a = some (.ext (DictObj a es ep)) ∧ R (Itx (·.key) a es.size ep) H1
theorem pi_any {tg l : Expr} {tl : TE} (hl : PE X l tl) : PI X tg l (iAny X.K tl) := by
  refine ⟨fun pins s σ H R I h => ?_⟩
  refine thn (hl.run pins s σ H _ I h) fun v s1 ⟨x, H1, I1, r1, q1⟩ => ?_
  have fp : ∀ b ∈ [s1.heap.objs.size], FpOk X pins H1 b := fun b hb => by
    have e : b = s1.heap.objs.size := by simpa using hb
    subst e
    exact I1.fpOk (Nat.le_refl _) (I1.hok.fresh (Nat.le_refl _))
  rcases q1 with ⟨a, e, ⟨xs, hq⟩, q⟩ | ⟨a, e, ⟨xs, hq⟩, q⟩ | ⟨z, e, q⟩ | ⟨a, es, ep, e, hs, hd, q⟩
  · subst e
    cases r1
    obtain ⟨its, rv, p, hz⟩ := I1.list hq
    exact wpAny_pyIter_list p.isList ⟨_, _, _, _, H1, rfl, I1.kept (t' := s1.toks) fun b o e => Heap.get?_push_of_some _ e, turn_list a _, ⟨_, Heap.get?_push_size _ rfl, rfl, rfl⟩, fp, q⟩
  · subst e
    cases r1
    obtain ⟨its, rv, p, hz⟩ := I1.tuple hq
    exact wpAny_pyIter_tuple (show s1.heap.IsTuple a its.toArray from p) ⟨_, _, _, _, H1, rfl, I1.kept (t' := s1.toks) fun b o e => Heap.get?_push_of_some _ e, turn_tuple a _, ⟨_, Heap.get?_push_size _ rfl, rfl, rfl⟩, fp, q⟩
  · subst e
    obtain ⟨t, rfl⟩ := r1
    cases ha : z.cps.all (· < 128)
    · exact wpAny_pyIter_wide ha (pi_one (tk := s1.toks) I1 _ (turn_str _ z t "str_iterator" (.inr rfl)) ⟨_, Heap.get?_push_size _ rfl, rfl, rfl⟩ q)
    · exact wpAny_pyIter_ascii ha (pi_one (tk := s1.toks) I1 _ (turn_str _ z t "str_ascii_iterator" (.inl rfl)) ⟨_, Heap.get?_push_size _ rfl, rfl, rfl⟩ q)
  · subst e
    cases r1
    obtain ⟨g1, _⟩ := I1.hok a _ hd
    exact wpAny_pyIter_dict_raw hs g1 (pi_one (tk := s1.toks) I1 _ (turn_kx _) ⟨_, Heap.get?_push_size _ rfl, rfl, rfl⟩ q)
/-- the items of a value, and what must not change while they are walked -/
def itemsD (S : Sto) : D → Option (List D × (Sto → Prop))
  | .tup ds => some (ds, fun _ => True)
  | .fls ds => some (ds, fun _ => True)
  | .str x => some (signsD x, fun _ => True)
  | .loc l => match S[l]? with
    | some (.lst xs) => some (xs, fun S' => S'[l]? = some (.lst xs))
    | some (.dct ep kvs) => some (kvs.map (·.1), fun S' => S'[l]? = some (.dct ep kvs))
    | _ => none
  | _ => none
def wiAny (we : WE) : WI := fun τ S R => we τ S fun d S1 => ∃ p, itemsD S1 d = some p ∧ R p.1 p.2 S1
theorem di_any {tg l : Expr} {we : WE} (hl : PE X l (dE X we)) : PI X tg l (dI X (wiAny we)) := by
  refine PI.imp (pi_any hl) fun σ H R ⟨ρ, τ, S, Rd, W, er, h, p⟩ => ⟨ρ, τ, S, _, W, er, h, fun d S1 ⟨pr, e, h1⟩ ρ1 H1 v x1 W1 r => ?_⟩
  have fin := fun J => p pr.1 pr.2 S1 h1 ρ1 H1 J x1 W1
  cases d with
  | tup ds =>
    obtain ⟨a, vs, rfl, h2, h3⟩ := r.tup_of
    have e' : some (ds, fun _ => True) = some pr := e
    cases e'
    exact .inr (.inl ⟨a, rfl, ⟨vs, h2.sq⟩, fin _ (jr_tup (tupHas W1 h2 h3))⟩)
  | fls ds =>
    obtain ⟨a, vs, rfl, h2, h3⟩ := r.fls_of
    have e' : some (ds, fun _ => True) = some pr := e
    cases e'
    exact .inl ⟨a, rfl, ⟨vs, h2.sq⟩, fin _ (jr_list (lstHas_fls W1 h2 h3))⟩
  | str x =>
    cases r.str_of
    have e' : some (signsD x, fun _ => True) = some pr := e
    cases e'
    exact .inr (.inr (.inl ⟨x, rfl, fin _ (jr_str x)⟩))
  | loc l =>
    obtain ⟨a, h2, rfl⟩ := r.loc_of
    simp only [itemsD] at e
    split at e
    · rename_i xs h3
      cases e
      obtain ⟨vs, h4, h5⟩ := W1.obj l a _ h2 h3
      exact .inl ⟨a, rfl, ⟨vs, SqL.of h4⟩, fin _ (jr_list (lstHas_loc h2))⟩
    · rename_i ep kvs h3
      cases e
      obtain ⟨h4, h5, h6, es, h7, h8⟩ := W1.obj l a _ h2 h3
      exact .inr (.inr (.inr ⟨a, es, ep, rfl, h4, h7, fin _ (jr_dict h2 ((Paired.length h8).trans Array.length_toList) fun ρ' H' p e hp => by
        obtain ⟨k, kv, dv, g1, g2, g3, g4, g5, _⟩ := hp
        exact ⟨kv, g4, g5⟩)⟩))
    · cases e
  | non => cases e
  | bl _ => cases e
  | int _ => cases e

/-! ### range -/
def rangeD (lo : Int) (n : Nat) : List D := (List.range n).map fun i : Nat => D.int (lo + (i : Int))
theorem jr_range {ρ : List Addr} {H : Hp} (lo : Int) (n : Nat) : JR X (Itr lo n) ρ H (rangeD lo n) (fun _ => True) where
  go := fun i d ρ' S' H' xx W' hc hd => by
    unfold rangeD at hd
    rw [List.getElem?_map] at hd
    by_cases hl : i < n
    · rw [List.getElem?_range hl] at hd
      cases hd
      refine ⟨hl, fun y H2 ⟨e1, e2⟩ => ?_⟩
      subst e1
      rw [e2]
      exact ⟨Ext.refl _ _, W', .int⟩
    · rw [List.getElem?_eq_none (by simp; omega)] at hd
      cases hd
  stop := fun i ρ' S' H' xx W' hc hi => by
    have : n ≤ i := by
      unfold rangeD at hi
      simpa using hi
    exact this
def wiRange1 (wr : WA) : WI := fun τ S R => wr τ S fun ds S1 => ∃ j : Int, ds = [.int j] ∧ -(2 ^ 62) ≤ j ∧ j < 2 ^ 62 ∧ R (rangeD 0 j.toNat) (fun _ => True) S1
def wiRange2 (wr : WA) : WI := fun τ S R => wr τ S fun ds S1 => ∃ i j : Int, ds = [.int i, .int j] ∧ (-(2 ^ 62) ≤ i ∧ i < 2 ^ 62 ∧ -(2 ^ 62) ≤ j ∧ j < 2 ^ 62) ∧ R (rangeD i (j - i).toNat) (fun _ => True) S1
theorem VRs.one_of {K : PySem.W.Frag} {ρ : List Addr} {H : Hp} {d : D} {vs : List V} (h : VRs K ρ H [d] vs) : ∃ v, vs = [v] ∧ VR K ρ H d v := by
  unfold VRs at h
  obtain ⟨v, vr, rfl, h1, h2⟩ := h
  unfold VRs at h2
  subst h2
  exact ⟨v, rfl, h1⟩
theorem VRs.two_of {K : PySem.W.Frag} {ρ : List Addr} {H : Hp} {d c : D} {vs : List V} (h : VRs K ρ H [d, c] vs) : ∃ v u, vs = [v, u] ∧ VR K ρ H d v ∧ VR K ρ H c u := by
  unfold VRs at h
  obtain ⟨v, vr, rfl, h1, h2⟩ := h
  obtain ⟨u, rfl, h3⟩ := h2.one_of
  exact ⟨v, u, rfl, h1, h3⟩
theorem VRs.three_of {K : PySem.W.Frag} {ρ : List Addr} {H : Hp} {d c b : D} {vs : List V} (h : VRs K ρ H [d, c, b] vs) : ∃ v u t, vs = [v, u, t] ∧ VR K ρ H d v ∧ VR K ρ H c u ∧ VR K ρ H b t := by
  unfold VRs at h
  obtain ⟨v, vr, rfl, h1, h2⟩ := h
  obtain ⟨u, t, rfl, h3, h4⟩ := h2.two_of
  exact ⟨v, u, t, rfl, h1, h3, h4⟩
theorem di_range1 {tg a : Expr} {wr : WA} {p pos : Pos} (hm : X.mg "range" = none) (hg : Gl X "range") (ha : PA X [a] (dA X wr)) (hs : starEach [a] X.env = [(false, eval a X.env)] := by rfl) : PI X tg (.Call (.Name "range" p) [a] [] pos) (dI X (wiRange1 wr)) :=
  PI.imp (pi_range1 hg hm ha hs) fun σ H R ⟨ρ, τ, S, Rd, W, er, h, p⟩ => ⟨ρ, τ, S, _, W, er, h, fun ds S1 ⟨j, e, b1, b2, h1⟩ ρ1 H1 vs x1 W1 r => by
    subst e
    obtain ⟨v, rfl, r1⟩ := r.one_of
    cases r1.int_of
    exact ⟨j, rfl, b1, b2, p _ _ S1 h1 ρ1 H1 _ x1 W1 (jr_range 0 _)⟩⟩
theorem di_range2 {tg a b : Expr} {wr : WA} {p pos : Pos} (hm : X.mg "range" = none) (hg : Gl X "range") (ha : PA X [a, b] (dA X wr)) (hs : starEach [a, b] X.env = [(false, eval a X.env), (false, eval b X.env)] := by rfl) (hs2 : starEach [b] X.env = [(false, eval b X.env)] := by rfl) :
    PI X tg (.Call (.Name "range" p) [a, b] [] pos) (dI X (wiRange2 wr)) :=
  PI.imp (pi_range2 hg hm ha hs hs2) fun σ H R ⟨ρ, τ, S, Rd, W, er, h, p⟩ => ⟨ρ, τ, S, _, W, er, h, fun ds S1 ⟨i, j, e, b1, h1⟩ ρ1 H1 vs x1 W1 r => by
    subst e
    obtain ⟨v, u, rfl, r1, r2⟩ := r.two_of
    cases r1.int_of
    cases r2.int_of
    exact ⟨i, j, rfl, b1, p _ _ S1 h1 ρ1 H1 _ x1 W1 (jr_range i _)⟩⟩

/-! ### zip -/
def zipD (xs ys : List D) : List D := (xs.zip ys).map fun p => D.tup [p.1, p.2]
theorem zip_get {xs ys : List D} {i : Nat} {d : D} (h : (zipD xs ys)[i]? = some d) : ∃ x y, xs[i]? = some x ∧ ys[i]? = some y ∧ d = .tup [x, y] := by
  unfold zipD at h
  rw [List.getElem?_map] at h
  cases e : (xs.zip ys)[i]? with
  | none =>
    rw [e] at h
    cases h
  | some p =>
    rw [e] at h
    cases h
    obtain ⟨h1, h2⟩ := List.getElem?_zip_eq_some.mp e
    exact ⟨_, _, h1, h2, rfl⟩
theorem jr_zip {ρ : List Addr} {H : Hp} {a b : Addr} {xs ys : List D} {ck1 ck2 : Sto → Prop} (h1 : LstHas X ρ H a xs ck1) (h2 : LstHas X ρ H b ys ck2) : JR X (Itz X.K a b) ρ H (zipD xs ys) (fun S => ck1 S ∧ ck2 S) where
  go := fun i d ρ' S' H' x W' hc hd => by
    obtain ⟨d1, d2, g1, g2, rfl⟩ := zip_get hd
    obtain ⟨vs, q1, r1⟩ := h1 ρ' S' H' x W' hc.1
    obtain ⟨us, q2, r2⟩ := h2 ρ' S' H' x W' hc.2
    obtain ⟨v, e1, k1⟩ := r1.get g1
    obtain ⟨u, e2, k2⟩ := r2.get g2
    refine ⟨⟨vs, us, v, u, q1, q2, e1, e2⟩, fun y H2 ⟨T, x', y', e, hT, hH, p1, p2⟩ => ?_⟩
    have e3 := p1 vs q1
    have e4 := p2 us q2
    rw [e1] at e3
    rw [e2] at e4
    cases e3
    cases e4
    subst e hH
    exact ⟨ext_new hT, W'.laid hT, .tup (.inl upd_same) (.cons (k1.ext W'.sep (ext_new hT)) (.cons (k2.ext W'.sep (ext_new hT)) .nil))⟩
  stop := fun i ρ' S' H' x W' hc hi => by
    obtain ⟨vs, q1, r1⟩ := h1 ρ' S' H' x W' hc.1
    obtain ⟨us, q2, r2⟩ := h2 ρ' S' H' x W' hc.2
    refine ⟨vs, us, q1, q2, ?_⟩
    rw [r1.length, r2.length]
    unfold zipD at hi
    rw [List.length_map, List.length_zip] at hi
    omega
theorem jr_zipT {ρ : List Addr} {H : Hp} {a b : Addr} {xs ys : List D} (h1 : TupHas X ρ H a xs) (h2 : TupHas X ρ H b ys) : JR X (ItzT X.K a b) ρ H (zipD xs ys) (fun S => True ∧ True) where
  go := fun i d ρ' S' H' x W' hc hd => by
    obtain ⟨d1, d2, g1, g2, rfl⟩ := zip_get hd
    obtain ⟨vs, q1, r1⟩ := h1 ρ' S' H' x W'
    obtain ⟨us, q2, r2⟩ := h2 ρ' S' H' x W'
    obtain ⟨v, e1, k1⟩ := r1.get g1
    obtain ⟨u, e2, k2⟩ := r2.get g2
    refine ⟨⟨vs, us, v, u, q1, q2, e1, e2⟩, fun y H2 ⟨T, x', y', e, hT, hH, p1, p2⟩ => ?_⟩
    have e3 := p1 vs q1
    have e4 := p2 us q2
    rw [e1] at e3
    rw [e2] at e4
    cases e3
    cases e4
    subst e hH
    exact ⟨ext_new hT, W'.laid hT, .tup (.inl upd_same) (.cons (k1.ext W'.sep (ext_new hT)) (.cons (k2.ext W'.sep (ext_new hT)) .nil))⟩
  stop := fun i ρ' S' H' x W' hc hi => by
    obtain ⟨vs, q1, r1⟩ := h1 ρ' S' H' x W'
    obtain ⟨us, q2, r2⟩ := h2 ρ' S' H' x W'
    refine ⟨vs, us, q1, q2, ?_⟩
    rw [r1.length, r2.length]
    unfold zipD at hi
    rw [List.length_map, List.length_zip] at hi
    omega
/-- a list's items (not a tuple's) -/
def lstD (S : Sto) : D → Option (List D × (Sto → Prop))
  | .fls ds => some (ds, fun _ => True)
  | .loc l => match S[l]? with
    | some (.lst xs) => some (xs, fun S' => S'[l]? = some (.lst xs))
    | _ => none
  | _ => none
theorem lstD_ok {ρ : List Addr} {S : Sto} {H : Hp} {d : D} {v : V} {p : List D × (Sto → Prop)} (W : XW X ρ S H) (r : VR X.K ρ H d v) (e : lstD S d = some p) : ∃ a vs, v = .ref a ∧ SqL X.K H a vs ∧ VRs X.K ρ H p.1 vs ∧ LstHas X ρ H a p.1 p.2 := by
  cases d with
  | fls ds =>
    obtain ⟨a, vs, rfl, h2, h3⟩ := r.fls_of
    have e' : some (ds, fun _ => True) = some p := e
    cases e'
    exact ⟨a, vs, rfl, h2.sq, h3, lstHas_fls W h2 h3⟩
  | loc l =>
    obtain ⟨a, h2, rfl⟩ := r.loc_of
    simp only [lstD] at e
    split at e
    · rename_i xs h3
      cases e
      obtain ⟨vs, h4, h5⟩ := W.obj l a _ h2 h3
      exact ⟨a, vs, rfl, SqL.of h4, h5, lstHas_loc h2⟩
    · cases e
  | tup _ => cases e
  | str _ => cases e
  | non => cases e
  | bl _ => cases e
  | int _ => cases e
def wiZip (wr : WA) : WI := fun τ S R => wr τ S fun ds S1 => ∃ d1 d2, ds = [d1, d2] ∧ ((∃ xs ys, d1 = .tup xs ∧ d2 = .tup ys ∧ R (zipD xs ys) (fun S => True ∧ True) S1) ∨
  ∃ p q, lstD S1 d1 = some p ∧ lstD S1 d2 = some q ∧ R (zipD p.1 q.1) (fun S => p.2 S ∧ q.2 S) S1)
theorem di_zip {e e2 : Expr} {wr : WA} {p pos tpos : Pos} {elts : List Expr} {kk : Nat} (hm : X.mg "zip" = none) (hg : Gl X "zip") (ha : PA X [e, e2] (dA X wr))
    (hs : starEach [e, e2] X.env = (false, eval e X.env) :: starEach [e2] X.env := by rfl) (hpl : (backTo pos (starEach [e2] X.env)).any (·.1) = false := by rfl) :
    PI X (.Tuple elts kk tpos) (.Call (.Name "zip" p) [e, e2] [] pos) (dI X (wiZip wr)) :=
  PI.imp (pi_zipA hg hm ha hs hpl) fun σ H R ⟨ρ, τ, S, Rd, W, er, h, p⟩ => ⟨ρ, τ, S, _, W, er, h, fun ds S1 ⟨d1, d2, e1, h1⟩ ρ1 H1 vs x1 W1 r => by
    subst e1
    obtain ⟨v, u, rfl, r1, r2⟩ := r.two_of
    rcases h1 with ⟨xs, ys, rfl, rfl, h1⟩ | ⟨p1, p2, e1, e2, h1⟩
    · obtain ⟨a, vs, rfl, h2, h3⟩ := r1.tup_of
      obtain ⟨b, us, rfl, h4, h5⟩ := r2.tup_of
      exact ⟨a, b, vs, us, rfl, .inr ⟨h2.sq, h4.sq, p _ _ S1 h1 ρ1 H1 _ x1 W1 (jr_zipT (tupHas W1 h2 h3) (tupHas W1 h4 h5))⟩⟩
    · obtain ⟨a, vs, rfl, h2, h3, l1⟩ := lstD_ok W1 r1 e1
      obtain ⟨b, us, rfl, h4, h5, l2⟩ := lstD_ok W1 r2 e2
      exact ⟨a, b, vs, us, rfl, .inl ⟨h2, h4, p _ _ S1 h1 ρ1 H1 _ x1 W1 (jr_zip l1 l2)⟩⟩⟩

/-! ### enumerate of a list -/
def enumD (xs : List D) : List D := xs.zipIdx.map fun p => D.tup [.int (p.2 : Nat), p.1]
theorem enum_get {xs : List D} {i : Nat} {d : D} (h : (enumD xs)[i]? = some d) : ∃ x, xs[i]? = some x ∧ d = .tup [.int (i : Nat), x] := by
  unfold enumD at h
  rw [List.getElem?_map, List.getElem?_zipIdx] at h
  cases e : xs[i]? with
  | none =>
    rw [e] at h
    cases h
  | some x =>
    rw [e] at h
    simp at h
    exact ⟨x, rfl, h.symm⟩
theorem jr_enum {ρ : List Addr} {H : Hp} {a : Addr} {xs : List D} {chk : Sto → Prop} (h : LstHas X ρ H a xs chk) : JR X (Ite X.K a) ρ H (enumD xs) chk where
  go := fun i d ρ' S' H' x W' hc hd => by
    obtain ⟨d1, g1, rfl⟩ := enum_get hd
    obtain ⟨vs, q1, r1⟩ := h ρ' S' H' x W' hc
    obtain ⟨v, e1, k1⟩ := r1.get g1
    refine ⟨⟨vs, v, q1, e1⟩, fun y H2 ⟨T, x', e, hT, hH, p1⟩ => ?_⟩
    have e3 := p1 vs q1
    rw [e1] at e3
    cases e3
    subst e hH
    exact ⟨ext_new hT, W'.laid hT, .tup (.inl upd_same) (.cons .int (.cons (k1.ext W'.sep (ext_new hT)) .nil))⟩
  stop := fun i ρ' S' H' x W' hc hi => by
    obtain ⟨vs, h1, h2⟩ := h ρ' S' H' x W' hc
    refine ⟨vs, h1, ?_⟩
    rw [h2.length]
    unfold enumD at hi
    simpa using hi
def wiEnum (wr : WA) : WI := fun τ S R => wr τ S fun ds S1 => ∃ d p, ds = [d] ∧ lstD S1 d = some p ∧ R (enumD p.1) p.2 S1
theorem di_enum {e : Expr} {wr : WA} {p pos tpos : Pos} {elts : List Expr} {kk : Nat} (hm : X.mg "enumerate" = none) (hg : Gl X "enumerate") (ha : PA X [e] (dA X wr)) (hs : starEach [e] X.env = [(false, eval e X.env)] := by rfl) :
    PI X (.Tuple elts kk tpos) (.Call (.Name "enumerate" p) [e] [] pos) (dI X (wiEnum wr)) :=
  PI.imp (pi_enum hg hm ha hs) fun σ H R ⟨ρ, τ, S, Rd, W, er, h, p⟩ => ⟨ρ, τ, S, _, W, er, h, fun ds S1 ⟨d, pr, e1, e2, h1⟩ ρ1 H1 vs x1 W1 r => by
    subst e1
    obtain ⟨v, rfl, r1⟩ := r.one_of
    obtain ⟨a, vs, rfl, h2, h3, l1⟩ := lstD_ok W1 r1 e2
    exact ⟨a, vs, rfl, h2, p _ _ S1 h1 ρ1 H1 _ x1 W1 (jr_enum l1)⟩⟩
end
end Dl

namespace Dl
open PySem L2

/-! ## the operators by values -/
/-- a rule of two ints -/
theorem opD_int {X : Cx} {f : Value → Value → Sem Value} {C : Int → Int → Prop} {g : Int → Int → V} {G : Int → Int → D} (h : OpR X f (rI C g)) (hg : ∀ ρ H i j, VR X.K ρ H (G i j) (g i j)) :
    OpR X f (rD X fun d1 d2 S R => ∃ i j, d1 = .int i ∧ d2 = .int j ∧ C i j ∧ R (G i j) S) :=
  OpR.imp h fun x y H Q ⟨ρ, S, d1, d2, R, W, r1, r2, ⟨i, j, e1, e2, c, q⟩, p⟩ => by
    subst e1 e2
    exact ⟨i, j, r1.int_of, r2.int_of, c, p _ _ q ρ H _ (Ext.refl _ _) W (hg _ _ _ _)⟩
theorem opD_int0 {X : Cx} {f : Value → Value → Sem Value} {g : Int → Int → V} {G : Int → Int → D} (h : OpR X f (rI0 g)) (hg : ∀ ρ H i j, VR X.K ρ H (G i j) (g i j)) :
    OpR X f (rD X fun d1 d2 S R => ∃ i j, d1 = .int i ∧ d2 = .int j ∧ R (G i j) S) :=
  OpR.imp h fun x y H Q ⟨ρ, S, d1, d2, R, W, r1, r2, ⟨i, j, e1, e2, q⟩, p⟩ => by
    subst e1 e2
    exact ⟨i, j, r1.int_of, r2.int_of, p _ _ q ρ H _ (Ext.refl _ _) W (hg _ _ _ _)⟩
def dAddI : DOp := fun d1 d2 S R => ∃ i j, d1 = .int i ∧ d2 = .int j ∧ R (.int (i + j)) S
def dSub : DOp := fun d1 d2 S R => ∃ i j, d1 = .int i ∧ d2 = .int j ∧ R (.int (i - j)) S
def dMulI : DOp := fun d1 d2 S R => ∃ i j, d1 = .int i ∧ d2 = .int j ∧ CMulW i j ∧ R (.int (i * j)) S
def dMod : DOp := fun d1 d2 S R => ∃ i j, d1 = .int i ∧ d2 = .int j ∧ j ≠ 0 ∧ R (.int (i.fmod j)) S
def dDiv : DOp := fun d1 d2 S R => ∃ i j, d1 = .int i ∧ d2 = .int j ∧ CDivW i j ∧ R (.int (i / j)) S
def dPow : DOp := fun d1 d2 S R => ∃ i j, d1 = .int i ∧ d2 = .int j ∧ CPow i j ∧ R (.int (i ^ j.toNat)) S
def dLtI : DOp := fun d1 d2 S R => ∃ i j, d1 = .int i ∧ d2 = .int j ∧ R (.bl (decide (i < j))) S
def dLe : DOp := fun d1 d2 S R => ∃ i j, d1 = .int i ∧ d2 = .int j ∧ R (.bl (decide (i ≤ j))) S
def dGt : DOp := fun d1 d2 S R => ∃ i j, d1 = .int i ∧ d2 = .int j ∧ R (.bl (decide (j < i))) S
def dGe : DOp := fun d1 d2 S R => ∃ i j, d1 = .int i ∧ d2 = .int j ∧ R (.bl (decide (j ≤ i))) S
section
variable {X : Cx}
theorem od_addI : OpR X (binaryOp .Add) (rD X dAddI) := opD_int0 op_add fun _ _ _ _ => .int
theorem od_sub : OpR X (binaryOp .Sub) (rD X dSub) := opD_int0 op_sub fun _ _ _ _ => .int
theorem od_mulI : OpR X (binaryOp .Mult) (rD X dMulI) := opD_int op_mulW fun _ _ _ _ => .int
theorem od_mod : OpR X (binaryOp .Mod) (rD X dMod) := opD_int op_modN fun _ _ _ _ => .int
theorem od_div : OpR X (binaryOp .FloorDiv) (rD X dDiv) := opD_int op_fdivW fun _ _ _ _ => .int
theorem od_pow : OpR X (binaryOp .Pow) (rD X dPow) := opD_int op_pow fun _ _ _ _ => .int
theorem od_ltI : OpR X (compareOp .Lt) (rD X dLtI) := opD_int0 op_lt fun _ _ _ _ => .bl
theorem od_le : OpR X (compareOp .LtE) (rD X dLe) := opD_int0 op_le fun _ _ _ _ => .bl
theorem od_gt : OpR X (compareOp .Gt) (rD X dGt) := opD_int0 op_gt fun _ _ _ _ => .bl
theorem od_ge : OpR X (compareOp .GtE) (rD X dGe) := opD_int0 op_ge fun _ _ _ _ => .bl

/-! ### + of texts, tuples, lists -/
def dAddS : DOp := fun d1 d2 S R => ∃ x y, d1 = .str x ∧ d2 = .str y ∧ x.length + y.length ≤ sizeLine ∧ R (.str (x ++ y)) S
def dAddT : DOp := fun d1 d2 S R => ∃ xs ys, d1 = .tup xs ∧ d2 = .tup ys ∧ xs.length + ys.length ≤ sizeLine ∧ R (.tup (xs ++ ys)) S
def dAddL : DOp := fun d1 d2 S R => ∃ l m xs ys, d1 = .loc l ∧ d2 = .loc m ∧ S[l]? = some (.lst xs) ∧ S[m]? = some (.lst ys) ∧ xs.length + ys.length ≤ sizeLine ∧ R (.loc S.length) (S ++ [.lst (xs ++ ys)])
theorem od_addS : OpR X (binaryOp .Add) (rD X dAddS) := OpR.imp op_add_str fun x y H Q ⟨ρ, S, d1, d2, R, W, r1, r2, ⟨i, j, e1, e2, hz, q⟩, p⟩ => by
  subst e1 e2
  exact ⟨i, j, r1.str_of, r2.str_of, hz, p _ _ q ρ H _ (Ext.refl _ _) W .str⟩
theorem VRs.nil_of {K : PySem.W.Frag} {ρ : List Addr} {H : Hp} {vs : List V} (h : VRs K ρ H [] vs) : vs = [] := by unfold VRs at h; exact h
theorem VRs.of_nil {K : PySem.W.Frag} {ρ : List Addr} {H : Hp} {ds : List D} (h : VRs K ρ H ds []) : ds = [] := by
  have := h.length
  simpa using this.symm
theorem od_addT : OpR X (binaryOp .Add) (rD X dAddT) := OpR.imp op_catA fun x y H Q ⟨ρ, S, d1, d2, R, W, r1, r2, ⟨xs, ys, e1, e2, hz, q⟩, p⟩ => by
  subst e1 e2
  obtain ⟨a, vs, rfl, h1, h2⟩ := r1.tup_of
  obtain ⟨b, us, rfl, h3, h4⟩ := r2.tup_of
  refine ⟨a, b, vs, us, rfl, rfl, h1.sq, h3.sq, by rw [h2.length, h4.length]; exact hz, fun e => ?_, fun n e => ?_, fun n n2 c hc => ?_⟩
  · subst e
    have e2 := h2.of_nil
    subst e2
    exact p _ _ q ρ H _ (Ext.refl _ _) W (.tup h3 h4)
  · subst e
    have e2 := h4.of_nil
    subst e2
    rw [List.append_nil] at q
    exact p _ _ q ρ H _ (Ext.refl _ _) W (.tup h1 h2)
  · exact new_tup W (h2.append h4) q p hc
theorem od_addL : OpR X (binaryOp .Add) (rD X dAddL) := OpR.imp op_cat fun x y H Q ⟨ρ, S, d1, d2, R, W, r1, r2, ⟨l, m, xs, ys, e1, e2, g1, g2, hz, q⟩, p⟩ => by
  subst e1 e2
  obtain ⟨a, h1, rfl⟩ := r1.loc_of
  obtain ⟨b, h2, rfl⟩ := r2.loc_of
  obtain ⟨vs, h3, h4⟩ := W.obj l a _ h1 g1
  obtain ⟨us, h5, h6⟩ := W.obj m b _ h2 g2
  exact ⟨a, b, vs, us, rfl, rfl, h3, h5, by rw [h4.length, h6.length]; exact hz, fun c hc => new_lst W (h4.append h6) q p hc⟩
def dAdd : DOp := opOr dAddI (opOr dAddS (opOr dAddT dAddL))
theorem od_add : OpR X (binaryOp .Add) (rD X dAdd) := OpD.or od_addI (OpD.or od_addS (OpD.or od_addT od_addL))
def dMulL : DOp := fun d1 d2 S R => ∃ l xs k, d1 = .loc l ∧ d2 = .int k ∧ S[l]? = some (.lst xs) ∧ -(2 ^ 63) ≤ k ∧ k < 2 ^ 63 ∧ xs.length * k.toNat ≤ sizeLine ∧ R (.loc S.length) (S ++ [.lst (List.replicate k.toNat xs).flatten])
theorem VRs.rep {K : PySem.W.Frag} {ρ : List Addr} {H : Hp} {ds : List D} {vs : List V} (h : VRs K ρ H ds vs) : ∀ k : Nat, VRs K ρ H (List.replicate k ds).flatten (List.replicate k vs).flatten
  | 0 => .nil
  | k + 1 => by
    rw [List.replicate_succ, List.replicate_succ, List.flatten_cons, List.flatten_cons]
    exact h.append (h.rep k)
theorem od_mulL : OpR X (binaryOp .Mult) (rD X dMulL) := OpR.imp op_rep fun x y H Q ⟨ρ, S, d1, d2, R, W, r1, r2, ⟨l, xs, k, e1, e2, g1, b1, b2, hz, q⟩, p⟩ => by
  subst e1 e2
  obtain ⟨a, h1, rfl⟩ := r1.loc_of
  obtain ⟨vs, h3, h4⟩ := W.obj l a _ h1 g1
  exact ⟨a, k, vs, rfl, r2.int_of, h3, b1, b2, by rw [h4.length]; exact hz, fun c hc => new_lst W (h4.rep _) q p hc⟩

/-! ### == and != -/
/-- a value's key is what it is by == -/
theorem nested_of {pins : List (Addr × Obj)} {σ : St} {H : Hp} {s : Shared} {ρ : List Addr} (I : L2.Inv X pins σ H s) : ∀ (d : D) (k : NestedKey) (v : V) (u : Value), keyOf d = some k → VR X.K ρ H d v → RelV v u → NestedIs s.heap k u
  | .non, k, v, u, e, h, r => by
    cases h.non_of
    cases (show u = Value.none from r)
    have e' : some NestedKey.none = some k := e
    cases e'
    exact .none
  | .bl b, k, v, u, e, h, r => by
    cases h.bl_of
    cases (show u = Value.bool b from r)
    have e' : some (NestedKey.num (if b then 1 else 0)) = some k := e
    cases e'
    exact .bool rfl
  | .int i, k, v, u, e, h, r => by
    cases h.int_of
    obtain ⟨t, rfl⟩ := (show ∃ t, u = Value.int i t from r)
    have e' : some (NestedKey.num i) = some k := e
    cases e'
    exact .int _ _
  | .str x, k, v, u, e, h, r => by
    cases h.str_of
    obtain ⟨t, rfl⟩ := (show ∃ t, u = Value.str x t from r)
    have e' : some (NestedKey.text x) = some k := e
    cases e'
    exact .text _ _
  | .tup ds, k, v, u, e, h, r => by
    obtain ⟨a, vs, rfl, h1, h2⟩ := h.tup_of
    cases (show u = Value.ref a from r)
    have e' : (keyOf.keysOf ds).map NestedKey.tup = some k := e
    cases e2 : keyOf.keysOf ds with
    | none =>
      rw [e2] at e'
      cases e'
    | some ks =>
      rw [e2] at e'
      cases e'
      obtain ⟨its, rv, ⟨o, ho, hc, n, hd⟩, _⟩ := I.tuple h1.sq
      exact .tup ho hc hd (by simpa using go ds ks vs its e2 h2 rv)
  | .fls _, _, _, _, e, _, _ => by cases e
  | .loc _, _, _, _, e, _, _ => by cases e
where go : ∀ (ds : List D) (ks : List NestedKey) (vs : List V) (us : List Value), keyOf.keysOf ds = some ks → VRs X.K ρ H ds vs → Vals vs us → NestedAll s.heap ks us
  | [], ks, vs, us, e, h, r => by
    cases h.nil_of
    cases r
    have e' : some [] = some ks := e
    cases e'
    exact .nil
  | d :: ds, ks, vs, us, e, h, r => by
    unfold VRs at h
    obtain ⟨v, vr, rfl, h1, h2⟩ := h
    cases r with
    | cons r1 r2 =>
      unfold keyOf.keysOf at e
      cases e1 : keyOf d with
      | none =>
        rw [e1] at e
        cases e
      | some k =>
        cases e2 : keyOf.keysOf ds with
        | none =>
          rw [e1, e2] at e
          cases e
        | some ks' =>
          rw [e1, e2] at e
          cases e
          exact .cons (nested_of I d k v _ e1 h1 r1) (go ds ks' vr _ e2 h2 r2)
end
/-- == and != of keys at the top -/
theorem rcAt_key {A : Around} {s : Shared} : ∀ (x y : NestedKey) (a b : Value), NestedIs s.heap x a → NestedIs s.heap y b → A.units + min x.depth y.depth + 1 < cLine → SeqAt.RcAt A s a b (NestedKey.beq x y) ∧ SeqAt.RcNeAt A s a b (!NestedKey.beq x y)
  | .none, _, _, _, ra, rb, hu => by
    cases ra
    cases rb with
    | none => exact ⟨SeqAt.RcAt.none_none, SeqAt.RcNeAt.none_none⟩
    | bool e => exact ⟨SeqAt.RcAt.none_bool _, SeqAt.RcNeAt.none_bool _⟩
    | int y u => exact ⟨SeqAt.RcAt.none_int _ _, SeqAt.RcNeAt.none_int _ _⟩
    | text y u => exact ⟨SeqAt.RcAt.none_str _ _, SeqAt.RcNeAt.none_str _ _⟩
    | tup k1 k2 k3 k4 => exact ⟨SeqAt.RcAt.none_tuple ⟨_, k1, k2, _, k3⟩ (by omega), SeqAt.RcNeAt.none_tuple ⟨_, k1, k2, _, k3⟩ (by omega)⟩
  | .num i, _, _, _, ra, rb, hu => by
    cases ra with
    | int _ t =>
      cases rb with
      | none => exact ⟨SeqAt.RcAt.int_none _ _, SeqAt.RcNeAt.int_none _ _⟩
      | bool e => subst e; exact ⟨SeqAt.RcAt.int_bool _ _ _, SeqAt.RcNeAt.int_bool _ _ _⟩
      | int y u => exact ⟨SeqAt.RcAt.int_int _ _ _ _, SeqAt.RcNeAt.int_int _ _ _ _⟩
      | text y u => exact ⟨SeqAt.RcAt.int_str _ _ _ _, SeqAt.RcNeAt.int_str _ _ _ _⟩
      | tup k1 k2 k3 k4 => exact ⟨SeqAt.RcAt.int_tuple _ _ ⟨_, k1, k2, _, k3⟩ (by omega), SeqAt.RcNeAt.int_tuple _ _ ⟨_, k1, k2, _, k3⟩ (by omega)⟩
    | @bool c _ e =>
      cases rb with
      | none => exact ⟨SeqAt.RcAt.bool_none _, SeqAt.RcNeAt.bool_none _⟩
      | @bool d i2 e' =>
        have h : NestedKey.beq (.num i) (.num i2) = (c == d) := by
          subst e e'
          cases c <;> cases d <;> rfl
        rw [h]
        exact ⟨SeqAt.RcAt.bool_bool _ _, SeqAt.RcNeAt.bool_bool _ _⟩
      | int y u => subst e; exact ⟨SeqAt.RcAt.bool_int _ _ _, SeqAt.RcNeAt.bool_int _ _ _⟩
      | text y u => exact ⟨SeqAt.RcAt.bool_str _ _ _, SeqAt.RcNeAt.bool_str _ _ _⟩
      | tup k1 k2 k3 k4 => exact ⟨SeqAt.RcAt.bool_tuple _ ⟨_, k1, k2, _, k3⟩ (by omega), SeqAt.RcNeAt.bool_tuple _ ⟨_, k1, k2, _, k3⟩ (by omega)⟩
  | .text x, _, _, _, ra, rb, hu => by
    cases ra with
    | text _ t =>
      cases rb with
      | none => exact ⟨SeqAt.RcAt.str_none _ _, SeqAt.RcNeAt.str_none _ _⟩
      | bool e => exact ⟨SeqAt.RcAt.str_bool _ _ _, SeqAt.RcNeAt.str_bool _ _ _⟩
      | int y u => exact ⟨SeqAt.RcAt.str_int _ _ _ _, SeqAt.RcNeAt.str_int _ _ _ _⟩
      | text y u => exact ⟨SeqAt.RcAt.str_str _ _ _ _, SeqAt.RcNeAt.str_str _ _ _ _⟩
      | tup k1 k2 k3 k4 => exact ⟨SeqAt.RcAt.str_tuple _ _ ⟨_, k1, k2, _, k3⟩ (by omega), SeqAt.RcNeAt.str_tuple _ _ ⟨_, k1, k2, _, k3⟩ (by omega)⟩
  | .tup xs, _, _, _, ra, rb, hu => by
    cases ra with
    | @tup l o vs n _ h1 h2 h3 h4 =>
      have hl : s.heap.IsTuple l vs := ⟨_, h1, h2, _, h3⟩
      cases rb with
      | none => exact ⟨SeqAt.RcAt.tuple_none hl (by omega), SeqAt.RcNeAt.tuple_none hl (by omega)⟩
      | @bool d _ e => exact ⟨SeqAt.RcAt.tuple_bool d hl (by omega), SeqAt.RcNeAt.tuple_bool d hl (by omega)⟩
      | int y u => exact ⟨SeqAt.RcAt.tuple_int y u hl (by omega), SeqAt.RcNeAt.tuple_int y u hl (by omega)⟩
      | text y u => exact ⟨SeqAt.RcAt.tuple_str y u hl (by omega), SeqAt.RcNeAt.tuple_str y u hl (by omega)⟩
      | @tup l' o' vs' n' ys k1 k2 k3 k4 =>
        have hl' : s.heap.IsTuple l' vs' := ⟨_, k1, k2, _, k3⟩
        have n1 : vs.size = xs.length := by simpa using NestedAll.length _ _ h4
        have n2 : vs'.size = ys.length := by simpa using NestedAll.length _ _ k4
        have he : ∀ j (j1 : j < vs.size) (j2 : j < vs'.size), SeqAt.EqAt A.in1 s vs[j] vs'[j] (keyEqAt xs ys j) := fun j j1 j2 => by
          have hd : A.in1.units + min (NestedKey.depthAll xs) (NestedKey.depthAll ys) < cLine := by
            simp only [NestedKey.depth] at hu
            show A.units + 1 + _ < _
            omega
          have := eqAt_keys xs ys A.in1 s vs.toList vs'.toList h4 k4 hd j (by simpa using j1) (by simpa using j2)
          simpa using this
        have e : NestedKey.beq (.tup xs) (.tup ys) = ((List.range (min vs.size vs'.size)).all (keyEqAt xs ys) && vs.size == vs'.size) := by
          rw [n1, n2]
          exact (beqAll_eq xs ys).symm
        rw [e]
        exact ⟨SeqAt.RcAt.tuples hl hl' (by omega) he, SeqAt.RcNeAt.tuples hl hl' (by omega) he⟩
theorem beqAll_len : ∀ {xs ys : List NestedKey}, xs.length ≠ ys.length → NestedKey.beqAll xs ys = false
  | [], [], h => absurd rfl h
  | [], _ :: _, _ => rfl
  | _ :: _, [], _ => rfl
  | x :: xs, y :: ys, h => by
    unfold NestedKey.beqAll
    rw [beqAll_len (xs := xs) (ys := ys) (fun e => h (by simp [e])), Bool.and_false]
/-- two lists -/
theorem rcAt_lists {A : Around} {s : Shared} {l b : Addr} {us ws : Array Value} {xs ys : List NestedKey} (hl : s.heap.IsList l us) (hb : s.heap.IsList b ws) (h1 : NestedAll s.heap xs us.toList) (h2 : NestedAll s.heap ys ws.toList)
    (hu : A.units + min (NestedKey.depthAll xs) (NestedKey.depthAll ys) + 1 < cLine) : SeqAt.RcAt A s (.ref l) (.ref b) (NestedKey.beqAll xs ys) ∧ SeqAt.RcNeAt A s (.ref l) (.ref b) (!NestedKey.beqAll xs ys) := by
  have n1 : us.size = xs.length := by simpa using NestedAll.length _ _ h1
  have n2 : ws.size = ys.length := by simpa using NestedAll.length _ _ h2
  have he : ∀ j (j1 : j < us.size) (j2 : j < ws.size), SeqAt.EqAt A.in1 s us[j] ws[j] (keyEqAt xs ys j) := fun j j1 j2 => by
    have hd : A.in1.units + min (NestedKey.depthAll xs) (NestedKey.depthAll ys) < cLine := by
      show A.units + 1 + _ < _
      omega
    have := eqAt_keys xs ys A.in1 s us.toList ws.toList h1 h2 hd j (by simpa using j1) (by simpa using j2)
    simpa using this
  by_cases hz : us.size = ws.size
  · have e : NestedKey.beqAll xs ys = (List.range us.size).all (keyEqAt xs ys) := by
      have hxy : xs.length = ys.length := by omega
      have hm : min xs.length ys.length = us.size := by omega
      rw [← beqAll_eq xs ys, hm, hxy]
      simp
    rw [e]
    exact ⟨SeqAt.RcAt.lists hl hb hz (by omega) he, SeqAt.RcNeAt.lists hl hb hz (by omega) he⟩
  · have hz' : (us.size != ws.size) = true := by simpa using hz
    rw [beqAll_len (by omega)]
    exact ⟨SeqAt.RcAt.lists_lengths hl hb hz' (by omega), SeqAt.RcNeAt.lists_lengths hl hb hz' (by omega)⟩
/-- a list and what is none -/
theorem rcAt_mixed {A : Around} {s : Shared} {l : Addr} {us : Array Value} {y : NestedKey} {b : Value} (hl : s.heap.IsList l us) (hb : NestedIs s.heap y b) (hu : A.units + 1 < cLine) :
    (SeqAt.RcAt A s (.ref l) b false ∧ SeqAt.RcNeAt A s (.ref l) b true) ∧ (SeqAt.RcAt A s b (.ref l) false ∧ SeqAt.RcNeAt A s b (.ref l) true) := by
  cases hb with
  | none => exact ⟨⟨SeqAt.RcAt.list_none hl (by omega), SeqAt.RcNeAt.list_none hl (by omega)⟩, ⟨SeqAt.RcAt.none_list hl (by omega), SeqAt.RcNeAt.none_list hl (by omega)⟩⟩
  | bool e => exact ⟨⟨SeqAt.RcAt.list_bool _ hl (by omega), SeqAt.RcNeAt.list_bool _ hl (by omega)⟩, ⟨SeqAt.RcAt.bool_list _ hl (by omega), SeqAt.RcNeAt.bool_list _ hl (by omega)⟩⟩
  | int y u => exact ⟨⟨SeqAt.RcAt.list_int _ _ hl (by omega), SeqAt.RcNeAt.list_int _ _ hl (by omega)⟩, ⟨SeqAt.RcAt.int_list _ _ hl (by omega), SeqAt.RcNeAt.int_list _ _ hl (by omega)⟩⟩
  | text y u => exact ⟨⟨SeqAt.RcAt.list_str _ _ hl (by omega), SeqAt.RcNeAt.list_str _ _ hl (by omega)⟩, ⟨SeqAt.RcAt.str_list _ _ hl (by omega), SeqAt.RcNeAt.str_list _ _ hl (by omega)⟩⟩
  | tup k1 k2 k3 k4 =>
    have hb : s.heap.IsTuple _ _ := ⟨_, k1, k2, _, k3⟩
    exact ⟨⟨SeqAt.RcAt.list_tuple hl hb (by omega), SeqAt.RcNeAt.list_tuple hl hb (by omega)⟩, ⟨SeqAt.RcAt.tuple_list hb hl (by omega), SeqAt.RcNeAt.tuple_list hb hl (by omega)⟩⟩

/-- what == tells of two values, where it is known -/
def eqQ (S : Sto) (d1 d2 : D) : Option Bool :=
  match keyOf d1, keyOf d2 with
  | some k1, some k2 => if min k1.depth k2.depth ≤ 100 then some (NestedKey.beq k1 k2) else none
  | some _, none => (lstD S d2).map fun _ => false
  | none, some _ => (lstD S d1).map fun _ => false
  | none, none => match lstD S d1, lstD S d2 with
    | some p, some q => match keyOf.keysOf p.1, keyOf.keysOf q.1 with
      | some k1, some k2 => if min (NestedKey.depthAll k1) (NestedKey.depthAll k2) ≤ 100 then some (NestedKey.beqAll k1 k2) else none
      | _, _ => none
    | _, _ => none
section
variable {X : Cx} {pins : List (Addr × Obj)} {σ : St} {H : Hp} {s : Shared} {ρ : List Addr} {S : Sto}
theorem eqQ_ok (hu : X.A.units + 150 < cLine) (I : L2.Inv X pins σ H s) (W : XW X ρ S H) {d1 d2 : D} {v1 v2 : V} {u1 u2 : Value} {b : Bool} (h1 : VR X.K ρ H d1 v1) (h2 : VR X.K ρ H d2 v2) (r1 : RelV v1 u1) (r2 : RelV v2 u2) (e : eqQ S d1 d2 = some b) :
    SeqAt.RcAt X.A s u1 u2 b ∧ SeqAt.RcNeAt X.A s u1 u2 (!b) := by
  unfold eqQ at e
  cases e1 : keyOf d1 with
  | some k1 =>
    have n1 := nested_of I d1 k1 v1 u1 e1 h1 r1
    cases e2 : keyOf d2 with
    | some k2 =>
      simp only [e1, e2] at e
      split at e
      · cases e
        exact rcAt_key k1 k2 u1 u2 n1 (nested_of I d2 k2 v2 u2 e2 h2 r2) (by omega)
      · cases e
    | none =>
      simp only [e1, e2] at e
      cases e3 : lstD S d2 with
      | none =>
        rw [e3] at e
        cases e
      | some p =>
        rw [e3] at e
        cases e
        obtain ⟨a, vs, rfl, g1, g2, g3⟩ := lstD_ok W h2 e3
        cases (show u2 = Value.ref a from r2)
        obtain ⟨its, rv, pl, hz⟩ := I.list g1
        exact (rcAt_mixed pl.isList n1 (by omega)).2
  | none =>
    cases e2 : keyOf d2 with
    | some k2 =>
      simp only [e1, e2] at e
      cases e3 : lstD S d1 with
      | none =>
        rw [e3] at e
        cases e
      | some p =>
        rw [e3] at e
        cases e
        obtain ⟨a, vs, rfl, g1, g2, g3⟩ := lstD_ok W h1 e3
        cases (show u1 = Value.ref a from r1)
        obtain ⟨its, rv, pl, hz⟩ := I.list g1
        exact (rcAt_mixed pl.isList (nested_of I d2 k2 v2 u2 e2 h2 r2) (by omega)).1
    | none =>
      simp only [e1, e2] at e
      cases e3 : lstD S d1 with
      | none =>
        rw [e3] at e
        cases e
      | some p =>
        cases e4 : lstD S d2 with
        | none =>
          rw [e3, e4] at e
          cases e
        | some q =>
          simp only [e3, e4] at e
          cases e5 : keyOf.keysOf p.1 with
          | none =>
            rw [e5] at e
            cases e
          | some k1 =>
            cases e6 : keyOf.keysOf q.1 with
            | none =>
              rw [e5, e6] at e
              cases e
            | some k2 =>
              simp only [e5, e6] at e
              split at e
              · cases e
                obtain ⟨a, vs, rfl, g1, g2, g3⟩ := lstD_ok W h1 e3
                obtain ⟨c, ws, rfl, g4, g5, g6⟩ := lstD_ok W h2 e4
                cases (show u1 = Value.ref a from r1)
                cases (show u2 = Value.ref c from r2)
                obtain ⟨its, rv, pl, hz⟩ := I.list g1
                obtain ⟨its2, rv2, pl2, hz2⟩ := I.list g4
                exact rcAt_lists pl.isList pl2.isList (by simpa using nested_of.go I p.1 k1 vs its e5 g2 rv) (by simpa using nested_of.go I q.1 k2 ws its2 e6 g5 rv2) (by omega)
              · cases e
end
def dEqQ : DOp := fun d1 d2 S R => ∃ b, eqQ S d1 d2 = some b ∧ R (.bl b) S
def dNeQ : DOp := fun d1 d2 S R => ∃ b, eqQ S d1 d2 = some b ∧ R (.bl (!b)) S
section
variable {X : Cx}
theorem od_eqQ (hu : X.A.units + 150 < cLine) : OpR X (compareOp .Eq) (rD X dEqQ) := fun pins s σ H x y v u Q I rx ry ⟨ρ, S, d1, d2, R, W, r1, r2, ⟨b, e, q⟩, p⟩ =>
  (eqQ_ok hu I W r1 r2 rx ry e).1 X.prog X.w _ _ ⟨.bl b, H, I, rfl, p _ _ q ρ H _ (Ext.refl _ _) W .bl⟩
theorem od_neQ (hu : X.A.units + 150 < cLine) : OpR X (compareOp .NotEq) (rD X dNeQ) := fun pins s σ H x y v u Q I rx ry ⟨ρ, S, d1, d2, R, W, r1, r2, ⟨b, e, q⟩, p⟩ =>
  (eqQ_ok hu I W r1 r2 rx ry e).2 X.prog X.w _ _ ⟨.bl (!b), H, I, rfl, p _ _ q ρ H _ (Ext.refl _ _) W .bl⟩
end
end Dl

namespace Dl
open PySem L2

/-! ### in, not in: lists, tuples, texts -/
/-- the items of a list or tuple -/
def seqD (S : Sto) : D → Option (List D)
  | .tup ds => some ds
  | .fls ds => some ds
  | .loc l => match S[l]? with
    | some (.lst xs) => some xs
    | _ => none
  | _ => none
section
variable {X : Cx} {ρ : List Addr} {S : Sto} {H : Hp}
theorem seqD_ok {d : D} {v : V} {ds : List D} (W : XW X ρ S H) (r : VR X.K ρ H d v) (e : seqD S d = some ds) : ∃ a vs, v = .ref a ∧ (SqL X.K H a vs ∨ SqT X.K H a vs) ∧ VRs X.K ρ H ds vs := by
  cases d with
  | tup xs =>
    obtain ⟨a, vs, rfl, h2, h3⟩ := r.tup_of
    have e' : some xs = some ds := e
    cases e'
    exact ⟨a, vs, rfl, .inr h2.sq, h3⟩
  | fls xs =>
    obtain ⟨a, vs, rfl, h2, h3⟩ := r.fls_of
    have e' : some xs = some ds := e
    cases e'
    exact ⟨a, vs, rfl, .inl h2.sq, h3⟩
  | loc l =>
    obtain ⟨a, h2, rfl⟩ := r.loc_of
    simp only [seqD] at e
    split at e
    · rename_i xs h3
      cases e
      obtain ⟨vs, h4, h5⟩ := W.obj l a _ h2 h3
      exact ⟨a, vs, rfl, .inl (SqL.of h4), h5⟩
    · cases e
  | non => cases e
  | bl _ => cases e
  | int _ => cases e
  | str _ => cases e
/-- a key among keys -/
def inKeys (k : NestedKey) (ks : List NestedKey) : Bool := ks.any fun y => NestedKey.beq y k
/-- x in a list or tuple: all are keys -/
def inD (S : Sto) (x y : D) : Option Bool :=
  match seqD S y, keyOf x with
  | some ds, some k => match keyOf.keysOf ds with
    | some ks => if k.depth ≤ 100 then some (inKeys k ks) else none
    | none => none
  | _, _ => none
theorem eqAt_mem {A : Around} {s : Shared} {k : NestedKey} {v : Value} (hv : NestedIs s.heap k v) (hu : A.units + k.depth < cLine) : ∀ (ks : List NestedKey) (us : List Value), NestedAll s.heap ks us →
    ∃ f : Value → Bool, (∀ u ∈ us, SeqAt.EqAt A s u v (f u)) ∧ us.any f = inKeys k ks
  | ks, us, h => by
    classical
    refine ⟨fun u => if ∃ y, NestedIs s.heap y u ∧ NestedKey.beq y k = true then true else false, fun u hm => ?_, ?_⟩
    · have go : ∀ (ks : List NestedKey) (us : List Value), NestedAll s.heap ks us → u ∈ us → ∃ y, NestedIs s.heap y u := by
        intro ks
        induction ks with
        | nil => intro us h hm; cases h; cases hm
        | cons y ys ih =>
          intro us h hm
          cases h with
          | cons h1 h2 =>
            rcases List.mem_cons.mp hm with e | hm
            · exact ⟨y, by rw [e]; exact h1⟩
            · exact ih _ h2 hm
      obtain ⟨y, hy⟩ := go ks us h hm
      have q := eqAt_key y k A s u v hy hv (by omega)
      dsimp only
      by_cases hb : NestedKey.beq y k = true
      · rw [if_pos ⟨y, hy, hb⟩]
        rw [hb] at q
        exact q
      · rw [if_neg (fun ⟨z, hz, hbz⟩ => hb (by rw [NestedIs.inj y z u hy hz]; exact hbz))]
        have : NestedKey.beq y k = false := by simpa using hb
        rw [this] at q
        exact q
    · clear hu
      revert us
      induction ks with
      | nil => intro us h; cases h; rfl
      | cons y ys ih =>
        intro us h
        cases h with
        | @cons _ u _ us' h1 h2 =>
          unfold inKeys
          rw [List.any_cons, List.any_cons]
          have ih' := ih _ h2
          unfold inKeys at ih'
          rw [ih']
          congr 1
          by_cases hb : NestedKey.beq y k = true
          · rw [if_pos ⟨y, h1, hb⟩, hb]
          · rw [if_neg (fun ⟨z, hz, hbz⟩ => hb (by rw [NestedIs.inj y z u h1 hz]; exact hbz))]
            simpa using hb
theorem inD_ok {pins : List (Addr × Obj)} {σ : St} {s : Shared} (hu : X.A.units + 150 < cLine) (I : L2.Inv X pins σ H s) (W : XW X ρ S H) {x y : D} {vx vy : V} {ux uy : Value} {b : Bool} (h1 : VR X.K ρ H x vx) (h2 : VR X.K ρ H y vy) (r1 : RelV vx ux) (r2 : RelV vy uy)
    (e : inD S x y = some b) {Q : Value → Shared → Prop} {E : Value → Shared → Prop} : (Q (.bool b) s → wpAny (model X.prog X.w) X.A (compareOp .In ux uy) Q E s) ∧ (Q (.bool (!b)) s → wpAny (model X.prog X.w) X.A (compareOp .NotIn ux uy) Q E s) := by
  unfold inD at e
  cases e1 : seqD S y with
  | none =>
    rw [e1] at e
    cases e
  | some ds =>
    cases e2 : keyOf x with
    | none =>
      rw [e1, e2] at e
      cases e
    | some k =>
      simp only [e1, e2] at e
      cases e3 : keyOf.keysOf ds with
      | none =>
        rw [e3] at e
        cases e
      | some ks =>
        simp only [e3] at e
        split at e
        · cases e
          obtain ⟨a, vs, rfl, g1, g2⟩ := seqD_ok W h2 e1
          cases (show uy = Value.ref a from r2)
          have nx := nested_of I x k vx ux e2 h1 r1
          have hd : X.A.in1.units + k.depth < cLine := by
            show X.A.units + 1 + _ < _
            omega
          rcases g1 with g1 | g1
          · obtain ⟨its, rv, pl, hz⟩ := I.list g1
            obtain ⟨f, hf, hany⟩ := eqAt_mem nx hd ks its (nested_of.go I ds ks vs its e3 g2 rv)
            have ea : its.toArray.any f = inKeys k ks := by rw [← hany]; simp
            exact ⟨fun q => SeqAt.in_listAt f pl.isList (fun u hm => hf u (by simpa using hm)) (by rw [ea]; exact q), fun q => SeqAt.notIn_listAt f pl.isList (fun u hm => hf u (by simpa using hm)) (by rw [ea]; exact q)⟩
          · obtain ⟨its, rv, pl, hz⟩ := I.tuple g1
            obtain ⟨f, hf, hany⟩ := eqAt_mem nx hd ks its (nested_of.go I ds ks vs its e3 g2 rv)
            have ea : its.toArray.any f = inKeys k ks := by rw [← hany]; simp
            exact ⟨fun q => SeqAt.in_tupleAt f pl (fun u hm => hf u (by simpa using hm)) (by rw [ea]; exact q), fun q => SeqAt.notIn_tupleAt f pl (fun u hm => hf u (by simpa using hm)) (by rw [ea]; exact q)⟩
        · cases e
def dInQ : DOp := fun d1 d2 S R => ∃ b, inD S d1 d2 = some b ∧ R (.bl b) S
def dNotInQ : DOp := fun d1 d2 S R => ∃ b, inD S d1 d2 = some b ∧ R (.bl (!b)) S
theorem od_inQ (hu : X.A.units + 150 < cLine) : OpR X (compareOp .In) (rD X dInQ) := fun pins s σ H x y v u Q I rx ry ⟨ρ, S, d1, d2, R, W, r1, r2, ⟨b, e, q⟩, p⟩ =>
  (inD_ok hu I W r1 r2 rx ry e).1 ⟨.bl b, H, I, rfl, p _ _ q ρ H _ (Ext.refl _ _) W .bl⟩
theorem od_notInQ (hu : X.A.units + 150 < cLine) : OpR X (compareOp .NotIn) (rD X dNotInQ) := fun pins s σ H x y v u Q I rx ry ⟨ρ, S, d1, d2, R, W, r1, r2, ⟨b, e, q⟩, p⟩ =>
  (inD_ok hu I W r1 r2 rx ry e).2 ⟨.bl (!b), H, I, rfl, p _ _ q ρ H _ (Ext.refl _ _) W .bl⟩
/-- one sign in a text -/
def dInS : DOp := fun d1 d2 S R => ∃ (c : Nat) (z : Str), d1 = .str ⟨#[c]⟩ ∧ d2 = .str z ∧ R (.bl (decide (c ∈ z.cps.toList))) S
def dNotInS : DOp := fun d1 d2 S R => ∃ (c : Nat) (z : Str), d1 = .str ⟨#[c]⟩ ∧ d2 = .str z ∧ R (.bl (!decide (c ∈ z.cps.toList))) S
theorem od_inS : OpR X (compareOp .In) (rD X dInS) := OpR.imp op_in_sign fun x y H Q ⟨ρ, S, d1, d2, R, W, r1, r2, ⟨c, z, e1, e2, q⟩, p⟩ => by
  subst e1 e2
  exact ⟨c, z, r1.str_of, r2.str_of, p _ _ q ρ H _ (Ext.refl _ _) W .bl⟩
theorem od_notInS : OpR X (compareOp .NotIn) (rD X dNotInS) := OpR.imp op_notIn_sign fun x y H Q ⟨ρ, S, d1, d2, R, W, r1, r2, ⟨c, z, e1, e2, q⟩, p⟩ => by
  subst e1 e2
  exact ⟨c, z, r1.str_of, r2.str_of, p _ _ q ρ H _ (Ext.refl _ _) W .bl⟩
/-! ### is None -/
def isNonD : D → Bool
  | .non => true
  | _ => false
def dIsN : DOp := fun d1 d2 S R => d2 = .non ∧ R (.bl (isNonD d1)) S
def dIsNotN : DOp := fun d1 d2 S R => d2 = .non ∧ R (.bl (!isNonD d1)) S
theorem isN_ok {d : D} {v : V} (r : VR X.K ρ H d v) : decide (v = .non) = isNonD d := by
  cases d with
  | non => cases r.non_of; rfl
  | bl _ => cases r.bl_of; rfl
  | int _ => cases r.int_of; rfl
  | str _ => cases r.str_of; rfl
  | tup _ => obtain ⟨a, vs, rfl, _⟩ := r.tup_of; rfl
  | fls _ => obtain ⟨a, vs, rfl, _⟩ := r.fls_of; rfl
  | loc _ => obtain ⟨a, _, rfl⟩ := r.loc_of; rfl
theorem od_isN : OpR X (compareOp .Is) (rD X dIsN) := OpR.imp op_isN fun x y H Q ⟨ρ, S, d1, d2, R, W, r1, r2, ⟨e2, q⟩, p⟩ => by
  subst e2
  refine ⟨r2.non_of, p _ _ ?_ ρ H _ (Ext.refl _ _) W .bl⟩
  rw [isN_ok r1]
  exact q
theorem od_isNotN : OpR X (compareOp .IsNot) (rD X dIsNotN) := OpR.imp op_notN fun x y H Q ⟨ρ, S, d1, d2, R, W, r1, r2, ⟨e2, q⟩, p⟩ => by
  subst e2
  refine ⟨r2.non_of, p _ _ ?_ ρ H _ (Ext.refl _ _) W .bl⟩
  rw [isN_ok r1]
  exact q

/-! ### places and slices -/
def dIxQ : DOp := fun d1 d2 S R => ∃ i, d2 = .int i ∧ ((∃ ds d, seqD S d1 = some ds ∧ atI ds i = some d ∧ R d S) ∨ ∃ z c, d1 = .str z ∧ z.length ≤ sizeLine ∧ atI z.cps.toList i = some c ∧ R (.str ⟨#[c]⟩) S)
theorem VRs.at {K : PySem.W.Frag} {ds : List D} {vs : List V} {i : Int} {d : D} (h : VRs K ρ H ds vs) (e : atI ds i = some d) : ∃ v, atI vs i = some v ∧ VR K ρ H d v := by
  unfold atI at e ⊢
  rw [h.length]
  cases hj : ixN ds.length i with
  | none =>
    rw [hj] at e
    cases e
  | some j =>
    rw [hj] at e
    exact h.get e
theorem od_ixQ : IxR X (rD X dIxQ) := IxR.imp ix_seq fun x y H Q ⟨ρ, S, d1, d2, R, W, r1, r2, ⟨i, e2, h⟩, p⟩ => by
  subst e2
  cases r2.int_of
  rcases h with ⟨ds, d, e1, e3, q⟩ | ⟨z, c, e1, hz, e3, q⟩
  · obtain ⟨a, vs, rfl, g1, g2⟩ := seqD_ok W r1 e1
    obtain ⟨v, hv, rv⟩ := g2.at e3
    have fin := p _ _ q ρ H v (Ext.refl _ _) W rv
    rcases g1 with g1 | g1
    · exact .inl ⟨a, vs, i, v, rfl, rfl, g1, hv, fin⟩
    · exact .inr (.inl ⟨a, vs, i, v, rfl, rfl, g1, hv, fin⟩)
  · subst e1
    exact .inr (.inr ⟨z, i, c, r1.str_of, rfl, hz, e3, p _ _ q ρ H _ (Ext.refl _ _) W .str⟩)
/-- the cut of a list by the parts of a slice -/
def cutD (xs : List D) (lo hi : Option Int) : List D := (xs.drop (HT.sIx xs.length 0 lo)).take (HT.sIx xs.length xs.length hi - HT.sIx xs.length 0 lo)
theorem VRs.cut {K : PySem.W.Frag} {ds : List D} {vs : List V} (h : VRs K ρ H ds vs) (lo hi : Option Int) : VRs K ρ H (cutD ds lo hi) (cutV vs lo hi) := by
  unfold cutD
  rw [← h.length]
  exact (h.drop _).take _
def dSlL : DSl := fun d lo hi S R => ∃ p, lstD S d = some p ∧ R (.loc S.length) (S ++ [.lst (cutD p.1 lo hi)])
def dSlT : DSl := fun d lo hi S R => ∃ ds, d = .tup ds ∧ R (.tup (cutD ds lo hi)) S
def dSlS : DSl := fun d lo hi S R => ∃ z, d = .str z ∧ z.length ≤ sizeLine ∧ R (.str (cutS z lo hi)) S
theorem sd_list : SlR X (rSlD X dSlL) := SlR.imp sl_list fun x lo hi H Q ⟨ρ, S, d, R, W, r, ⟨pr, e, q⟩, p⟩ => by
  obtain ⟨a, vs, rfl, h1, h2, _⟩ := lstD_ok W r e
  exact ⟨a, vs, rfl, h1, fun c hc => new_lst W (h2.cut lo hi) q p hc⟩
theorem sd_tup : SlR X (rSlD X dSlT) := SlR.imp sl_tupA fun x lo hi H Q ⟨ρ, S, d, R, W, r, ⟨ds, e, q⟩, p⟩ => by
  subst e
  obtain ⟨a, vs, rfl, h1, h2⟩ := r.tup_of
  refine ⟨a, vs, rfl, h1.sq, fun ⟨w1, w2⟩ => ?_, fun _ c hc => new_tup W (h2.cut lo hi) q p hc⟩
  have e : cutD ds lo hi = ds := by
    unfold cutD
    rw [h2.length] at w1 w2
    rw [w1, w2]
    simp
  rw [e] at q
  exact p _ _ q ρ H _ (Ext.refl _ _) W (.tup h1 h2)
theorem sd_str : SlR X (rSlD X dSlS) := SlR.imp sl_str fun x lo hi H Q ⟨ρ, S, d, R, W, r, ⟨z, e, hz, q⟩, p⟩ => by
  subst e
  exact ⟨z, r.str_of, hz, p _ _ q ρ H _ (Ext.refl _ _) W .str⟩
def dSl : DSl := slOr dSlL (slOr dSlT dSlS)
theorem sd_any : SlR X (rSlD X dSl) := SlD.or sd_list (SlD.or sd_tup sd_str)

/-! ### built-ins -/
def lenD (S : Sto) : D → Option Nat
  | .str x => if x.length ≤ sizeLine then some x.length else none
  | d => (seqD S d).map List.length
def dLenQ : DCall := fun ds S R => ∃ d n, ds = [d] ∧ lenD S d = some n ∧ R (.int (n : Nat)) S
theorem cd_lenQ : CallR X (.builtin "len") (rCD X dLenQ) := CallR.imp call_len fun xs H Q ⟨ρ, S, ds, R, W, r, ⟨d, n, e1, e2, q⟩, p⟩ => by
  subst e1
  obtain ⟨v, rfl, rv⟩ := r.one_of
  refine ⟨v, n, rfl, ?_, p _ _ q ρ H _ (Ext.refl _ _) W .int⟩
  have sq : ∀ ds, seqD S d = some ds → n = ds.length → LenV X.K v H n := fun ds e h => by
    obtain ⟨a, vs, rfl, g1, g2⟩ := seqD_ok W rv e
    rcases g1 with g1 | g1
    · exact .inl ⟨vs, g1, by rw [h, g2.length]⟩
    · exact .inr ⟨vs, g1, by rw [h, g2.length]⟩
  have other : ∀ (_ : lenD S d = (seqD S d).map List.length), LenV X.K v H n := fun h => by
    rw [h] at e2
    cases e3 : seqD S d with
    | none =>
      rw [e3] at e2
      cases e2
    | some ds =>
      rw [e3] at e2
      cases e2
      exact sq ds e3 rfl
  cases d with
  | str x =>
    cases rv.str_of
    have e' : (if x.length ≤ sizeLine then some x.length else none) = some n := e2
    by_cases hz : x.length ≤ sizeLine
    · rw [if_pos hz] at e'
      exact ⟨hz, (Option.some.inj e').symm⟩
    · rw [if_neg hz] at e'
      cases e'
  | tup ds => exact other rfl
  | fls ds => exact other rfl
  | loc l => exact other rfl
  | non => exact other rfl
  | bl _ => exact other rfl
  | int _ => exact other rfl
def dList : DCall := fun ds S R => ∃ d xs, ds = [d] ∧ seqD S d = some xs ∧ R (.loc S.length) (S ++ [.lst xs])
theorem cd_list : CallR X (.type "list") (rCD X dList) := CallR.imp call_list_of fun xs H Q ⟨ρ, S, ds, R, W, r, ⟨d, ys, e1, e2, q⟩, p⟩ => by
  subst e1
  obtain ⟨v, rfl, rv⟩ := r.one_of
  obtain ⟨a, vs, rfl, g1, g2⟩ := seqD_ok W rv e2
  exact ⟨a, vs, rfl, g1, fun c hc => new_lst W g2 q p hc⟩
def dTuple : DCall := fun ds S R => ∃ d xs, ds = [d] ∧ seqD S d = some xs ∧ R (.tup xs) S
theorem cd_tuple : CallR X (.type "tuple") (rCD X dTuple) := CallR.imp call_tuple_of fun xs H Q ⟨ρ, S, ds, R, W, r, ⟨d, ys, e1, e2, q⟩, p⟩ => by
  subst e1
  obtain ⟨v, rfl, rv⟩ := r.one_of
  have lst : ∀ pr : List D × (Sto → Prop), lstD S d = some pr → pr.1 = ys → ∃ a us, [v] = [V.ref a] ∧ ((SqL X.K H a us ∧ ∀ l, H l = none → Q (.ref l) (upd H l (.tup us))) ∨ (SqT X.K H a us ∧ Q (.ref a) H)) := fun pr e h => by
    obtain ⟨a, vs, rfl, g1, g2, _⟩ := lstD_ok W rv e
    subst h
    exact ⟨a, vs, rfl, .inl ⟨g1, fun c hc => new_tup W g2 q p hc⟩⟩
  cases d with
  | tup zs =>
    obtain ⟨a, vs, rfl, h2, h3⟩ := rv.tup_of
    have e' : some zs = some ys := e2
    cases e'
    exact ⟨a, vs, rfl, .inr ⟨h2.sq, p _ _ q ρ H _ (Ext.refl _ _) W (.tup h2 h3)⟩⟩
  | fls zs =>
    have e' : some zs = some ys := e2
    cases e'
    exact lst _ rfl rfl
  | loc l =>
    simp only [seqD] at e2
    split at e2
    · rename_i zs h3
      cases e2
      exact lst (ys, fun S' => S'[l]? = some (.lst ys)) (by simp only [lstD, h3]) rfl
    · cases e2
  | non => cases e2
  | bl _ => cases e2
  | int _ => cases e2
  | str _ => cases e2
def dMax2 : DCall := fun ds S R => ∃ i j, ds = [.int i, .int j] ∧ R (.int (if j > i then j else i)) S
def dMin2 : DCall := fun ds S R => ∃ i j, ds = [.int i, .int j] ∧ R (.int (if j < i then j else i)) S
theorem cd_max2 (hc : X.calm = true) : CallR X (.builtin "max") (rCD X dMax2) := CallR.imp (call_max2 hc) fun xs H Q ⟨ρ, S, ds, R, W, r, ⟨i, j, e1, q⟩, p⟩ => by
  subst e1
  obtain ⟨v, u, rfl, r1, r2⟩ := r.two_of
  cases r1.int_of
  cases r2.int_of
  exact ⟨i, j, rfl, p _ _ q ρ H _ (Ext.refl _ _) W .int⟩
theorem cd_min2 (hc : X.calm = true) : CallR X (.builtin "min") (rCD X dMin2) := CallR.imp (call_min2 hc) fun xs H Q ⟨ρ, S, ds, R, W, r, ⟨i, j, e1, q⟩, p⟩ => by
  subst e1
  obtain ⟨v, u, rfl, r1, r2⟩ := r.two_of
  cases r1.int_of
  cases r2.int_of
  exact ⟨i, j, rfl, p _ _ q ρ H _ (Ext.refl _ _) W .int⟩
/-- the truths of a list -/
def blsD : List D → Option (List Bool)
  | [] => some []
  | .bl b :: r => (blsD r).map (b :: ·)
  | _ :: _ => none
theorem blsD_ok : ∀ {ds : List D} {bs : List Bool} {vs : List V}, blsD ds = some bs → VRs X.K ρ H ds vs → vs = bs.map V.bl
  | [], bs, vs, e, h => by
    cases h.nil_of
    have e' : some [] = some bs := e
    cases e'
    rfl
  | d :: ds, bs, vs, e, h => by
    unfold VRs at h
    obtain ⟨v, vr, rfl, h1, h2⟩ := h
    cases d with
    | bl b =>
      have e' : (blsD ds).map (b :: ·) = some bs := e
      cases e1 : blsD ds with
      | none =>
        rw [e1] at e'
        cases e'
      | some bs' =>
        rw [e1] at e'
        cases e'
        rw [blsD_ok e1 h2, h1.bl_of]
        rfl
    | non => cases e
    | int _ => cases e
    | str _ => cases e
    | tup _ => cases e
    | fls _ => cases e
    | loc _ => cases e
def dAll : DCall := fun ds S R => ∃ d p bs, ds = [d] ∧ lstD S d = some p ∧ blsD p.1 = some bs ∧ R (.bl (bs.all id)) S
def dAny : DCall := fun ds S R => ∃ d p bs, ds = [d] ∧ lstD S d = some p ∧ blsD p.1 = some bs ∧ R (.bl (bs.any id)) S
theorem cd_all (hc : X.calm = true) : CallR X (.builtin "all") (rCD X dAll) := CallR.imp (cr_all hc) fun xs H Q ⟨ρ, S, ds, R, W, r, ⟨d, pr, bs, e1, e2, e3, q⟩, p⟩ => by
  subst e1
  obtain ⟨v, rfl, rv⟩ := r.one_of
  obtain ⟨a, vs, rfl, g1, g2, _⟩ := lstD_ok W rv e2
  exact ⟨a, bs, rfl, by rw [← blsD_ok e3 g2]; exact g1, p _ _ q ρ H _ (Ext.refl _ _) W .bl⟩
theorem cd_any (hc : X.calm = true) : CallR X (.builtin "any") (rCD X dAny) := CallR.imp (cr_any hc) fun xs H Q ⟨ρ, S, ds, R, W, r, ⟨d, pr, bs, e1, e2, e3, q⟩, p⟩ => by
  subst e1
  obtain ⟨v, rfl, rv⟩ := r.one_of
  obtain ⟨a, vs, rfl, g1, g2, _⟩ := lstD_ok W rv e2
  exact ⟨a, bs, rfl, by rw [← blsD_ok e3 g2]; exact g1, p _ _ q ρ H _ (Ext.refl _ _) W .bl⟩

/-! ### isinstance of a built-in type -/
def typD (S : Sto) : D → Option String
  | .non => some "NoneType"
  | .bl _ => some "bool"
  | .int _ => some "int"
  | .str _ => some "str"
  | .tup _ => some "tuple"
  | .fls _ => some "list"
  | .loc l => match S[l]? with
    | some (.lst _) => some "list"
    | some (.dct _ _) => some "dict"
    | _ => none
def wIsi (T : String) (we : WE) : WE := fun τ S R => we τ S fun d S1 => ∃ t b, typD S1 d = some t ∧ kitB t T = some b ∧ R (.bl b) S1
/-- what the library's isinstance rules ask -/
theorem kitD {pins : List (Addr × Obj)} {σ : St} {s : Shared} {d : D} {v : V} {u : Value} {t : String} (I : L2.Inv X pins σ H s) (W : XW X ρ S H) (h : VR X.K ρ H d v) (r : RelV v u) (e : typD S d = some t) :
    ∃ P : Heap → Prop, PySem.W.KitX X.K u (.type t) P ∧ P s.heap ∧ u ≠ .builtin "__main__.__loader__#opaque" := by
  cases d with
  | non =>
    cases h.non_of
    have e' : some "NoneType" = some t := e
    cases e'
    exact kit_of I r (.base .non)
  | bl b =>
    cases h.bl_of
    have e' : some "bool" = some t := e
    cases e'
    exact kit_of I r (.base (.bl b))
  | int i =>
    cases h.int_of
    have e' : some "int" = some t := e
    cases e'
    exact kit_of I r (.base (.int i))
  | str x =>
    cases h.str_of
    have e' : some "str" = some t := e
    cases e'
    exact kit_of I r (.base (.str x))
  | tup ds =>
    obtain ⟨a, vs, rfl, h1, h2⟩ := h.tup_of
    have e' : some "tuple" = some t := e
    cases e'
    cases (show u = Value.ref a from r)
    obtain ⟨its, rv, ⟨o, ho, hc, _⟩, _⟩ := I.tuple h1.sq
    exact ⟨_, PySem.W.kitx_tuple, ⟨o, ho, hc⟩, fun z => nomatch z⟩
  | fls ds =>
    obtain ⟨a, vs, rfl, h1, h2⟩ := h.fls_of
    have e' : some "list" = some t := e
    cases e'
    cases (show u = Value.ref a from r)
    obtain ⟨its, rv, pl, _⟩ := I.list h1.sq
    obtain ⟨o, ho, hc, _⟩ := pl.isList
    exact ⟨_, PySem.W.kitx_list, ⟨o, ho, hc⟩, fun z => nomatch z⟩
  | loc l =>
    obtain ⟨a, h1, rfl⟩ := h.loc_of
    cases (show u = Value.ref a from r)
    simp only [typD] at e
    split at e
    · rename_i xs h3
      cases e
      obtain ⟨vs, h4, h5⟩ := W.obj l a _ h1 h3
      exact kit_of I r (.base (.lst h4))
    · rename_i ep kvs h3
      cases e
      obtain ⟨_, _, _, es, h4, _⟩ := W.obj l a _ h1 h3
      obtain ⟨⟨o, ho, hx, _⟩, _⟩ := I.hok a _ h4
      exact ⟨_, PySem.W.kitx_dict, ⟨o, ho, hx.1⟩, fun z => nomatch z⟩
    · cases e
theorem de_isi {e : Expr} {we : WE} {x : Str} {n : String} {p p2 pos : Pos} (hm : X.mg "isinstance" = none) (hg : Gl X "isinstance") (hmT : X.mg x = none) (hgT : Gl X x) (hvT : bootBuiltins x = some (.type n)) (he : PE X e (dE X we)) (hn : x ≠ "__name__" := by decide) (hdb : (x == ("__debug__" : Str)) = false := by decide)
    (hs : starEach (e :: [Expr.Name x p2]) X.env = (false, eval e X.env) :: starEach [Expr.Name x p2] X.env := by rfl) (hpl : (backTo pos (starEach [Expr.Name x p2] X.env)).any (·.1) = false := by rfl) (hs2 : starEach [Expr.Name x p2] X.env = (false, eval (Expr.Name x p2) X.env) :: starEach [] X.env := by rfl) :
    PE X (.Call (.Name "isinstance" p) [e, .Name x p2] [] pos) (dE X (wIsi n we)) := by
  have rule : CallR X (.builtin "isinstance") (fun xs H Q => ∃ v, xs = [v, .ty n] ∧ ∃ ρ S d t b, XW X ρ S H ∧ VR X.K ρ H d v ∧ typD S d = some t ∧ kitB t n = some b ∧ Q (.bl b) H) := by
    intro pins s σ H xs us Q I r ⟨v, e1, ρ, S, d, t, b, W, rv, et, eb, q⟩
    subst e1
    obtain ⟨u1, u2, rfl, r1, r2⟩ := vals2 r
    cases (show u2 = Value.type n from r2)
    obtain ⟨P, Z, hp, hx⟩ := kitD I W rv r1 et
    exact PySem.W.kia_one Z I.kIn hp (kit_ty eb) hx fun tk => ⟨.bl b, H, I.tok tk, rfl, q⟩
  refine PE.imp (pe_callB rule hg hm (by decide +kernel) (pa_cons he (pa_cons (pe_bltn (v := .ty n) hgT hmT hvT rfl hn hdb) pa_nil hs2) hs) (by decide) (by decide) hs hpl) fun σ H Q ⟨ρ, τ, S, R, W, er, h, p⟩ => ?_
  exact ⟨ρ, τ, S, _, W, er, h, fun d S1 ⟨t, b, et, eb, q⟩ ρ1 H1 v x1 W1 r1 => ⟨v, rfl, ρ1, S1, d, t, b, W1, r1, et, eb, p _ _ q ρ1 H1 _ x1 W1 .bl⟩⟩
end
end Dl

namespace Dl
open PySem L2 PyProof.Rows PySem.Spec

/-! ### stores into lists, the methods of lists and texts -/
def dSetL : DSet := fun d1 d2 d3 S R => ∃ l xs i j, d1 = .loc l ∧ d2 = .int i ∧ S[l]? = some (.lst xs) ∧ ixN xs.length i = some j ∧ R (S.set l (.lst (xs.set j d3)))
section
variable {X : Cx} {ρ : List Addr} {S : Sto} {H : Hp}
/-- a list of the store is rewritten -/
theorem write_lst {l : Nat} {a : Addr} {xs ys : List D} {vs us : List V} (W : XW X ρ S H) (h1 : ρ[l]? = some a) (h2 : H a = some (.lst vs)) (r : VRs X.K ρ H ys us) :
    Ext ρ H ρ (upd H a (.lst us)) ∧ XW X ρ (S.set l (.lst ys)) (upd H a (.lst us)) := by
  have vx : VX ρ H ρ (upd H a (.lst us)) := vx_upd h2 (fun vs q => by cases q) (fun x y q => by cases q)
  exact ⟨ext_write (List.mem_of_getElem? h1), W.write h1 ⟨us, upd_same, VRs.vx vx _ _ r⟩⟩
theorem sd_setL : PSet X (rSetD X dSetL) := PSet.imp set_list fun o i v H Q ⟨ρ, S, d1, d2, d3, R, W, r1, r2, r3, ⟨l, xs, k, j, e1, e2, g, hj, q⟩, p⟩ => by
  subst e1 e2
  obtain ⟨a, h1, rfl⟩ := r1.loc_of
  obtain ⟨vs, h3, h4⟩ := W.obj l a _ h1 g
  obtain ⟨x1, W1⟩ := write_lst (xs := xs) W h1 h3 (VRs.set r3 j h4)
  exact ⟨a, vs, k, j, rfl, r2.int_of, h3, by rw [h4.length]; exact hj, p _ q ρ _ x1 W1⟩

/-! ### methods -/
abbrev DMt := D → List D → Sto → DQ → Prop
def rMD (X : Cx) (op : DMt) : V → List V → Hp → VK → Prop := fun x xs H Q => ∃ ρ S d ds R, XW X ρ S H ∧ VR X.K ρ H d x ∧ VRs X.K ρ H ds xs ∧ op d ds S R ∧ PassE X ρ H R Q
theorem MtR.imp {id : String} {r r' : V → List V → Hp → VK → Prop} (h : MtR X id r) (k : ∀ x xs H Q, r' x xs H Q → r x xs H Q) : MtR X id r' := fun pins s σ H x xs v us Q I rx rs q => h pins s σ H x xs v us Q I rx rs (k x xs H Q q)
theorem MtD.or {id : String} {o o' : DMt} (h : MtR X id (rMD X o)) (h' : MtR X id (rMD X o')) : MtR X id (rMD X fun d ds S R => o d ds S R ∨ o' d ds S R) :=
  MtR.imp (MtR.or h h') fun x xs H Q ⟨ρ, S, d, ds, R, W, r1, r2, q, p⟩ => q.imp (fun q => ⟨ρ, S, d, ds, R, W, r1, r2, q, p⟩) fun q => ⟨ρ, S, d, ds, R, W, r1, r2, q, p⟩
/-- the values of a built-in type -/
def tyD (S : Sto) (T : String) : D → Prop
  | .str _ => T = "str"
  | .loc l => ∃ xs, T = "list" ∧ S[l]? = some (.lst xs)
  | _ => False
theorem tyD_ok {T : String} {d : D} {v : V} (W : XW X ρ S H) (r : VR X.K ρ H d v) (h : tyD S T d) : tyV X.K T v H := by
  cases d with
  | str x =>
    cases r.str_of
    exact h
  | loc l =>
    obtain ⟨a, h1, rfl⟩ := r.loc_of
    obtain ⟨xs, rfl, h2⟩ := h
    obtain ⟨vs, h3, h4⟩ := W.obj l a _ h1 h2
    exact .inl ⟨rfl, vs, SqL.of h3⟩
  | non => exact h.elim
  | bl _ => exact h.elim
  | int _ => exact h.elim
  | tup _ => exact h.elim
  | fls _ => exact h.elim
def wMt0 (T : String) (o : DMt) (we : WE) : WE := fun τ S R => we τ S fun d S1 => tyD S1 T d ∧ o d [] S1 R
def wMt (T : String) (o : DMt) (we : WE) (wr : WA) : WE := fun τ S R => we τ S fun d S1 => tyD S1 T d ∧ wr τ S1 fun ds S2 => o d ds S2 R
variable {o e : Expr} {es : List Expr} {we : WE} {wr : WA} {name : Str} {apos cpos : Pos} {T id : String} {op : DMt}
theorem de_mt0 (pa : PlainAttrs T) (slot : Slot T name id) (hty : typeOf (.builtin id) = pure (.type "method_descriptor")) (hm : MtR X id (rMD X op)) (ho : PE X o (dE X we))
    (hbase : attributeBase o name X.env (eval o X.env) = eval o X.env := by rfl) (hline : (apos.endLine == cpos.line) = true := by rfl) : PE X (.Call (.Attribute o name apos) [] [] cpos) (dE X (wMt0 T op we)) :=
  PE.imp (pe_bm0 pa slot hty hm ho hbase hline) fun σ H Q ⟨ρ, τ, S, R, W, er, h, p⟩ => ⟨ρ, τ, S, _, W, er, h, fun d S1 ⟨ty, h1⟩ ρ1 H1 v x1 W1 r => ⟨tyD_ok W1 r ty, ρ1, S1, d, [], R, W1, r, .nil, h1, p.ext W1 x1⟩⟩
theorem de_mt (pa : PlainAttrs T) (slot : Slot T name id) (hty : typeOf (.builtin id) = pure (.type "method_descriptor")) (hm : MtR X id (rMD X op)) (ho : PE X o (dE X we)) (ha : PA X (e :: es) (dA X wr))
    (hbase : attributeBase o name X.env (eval o X.env) = eval o X.env := by rfl)
    (hfew : ((backTo cpos (starEach (e :: es) X.env)).all (fun x => !x.1) && (backToKw cpos (keywordEach [] X.env)).all (fun x => x.1.isSome)
      && decide ((e :: es).length + ([] : List Keyword).length + (if ([] : List Keyword).isEmpty then 0 else 1) < 30)) = true := by rfl)
    (hline : (apos.endLine == cpos.line) = true := by rfl) (hs : starEach (e :: es) X.env = (false, eval e X.env) :: starEach es X.env := by rfl) (hplain : (backTo cpos (starEach es X.env)).any (·.1) = false := by rfl) :
    PE X (.Call (.Attribute o name apos) (e :: es) [] cpos) (dE X (wMt T op we wr)) :=
  PE.imp (pe_bm pa slot hty hm ho ha hbase hfew hline hs hplain) fun σ H Q ⟨ρ, τ, S, R, W, er, h, p⟩ => ⟨ρ, τ, S, _, W, er, h, fun d S1 ⟨ty, h1⟩ ρ1 H1 v x1 W1 r => ⟨tyD_ok W1 r ty,
    ⟨ρ1, τ, S1, _, W1, er.ext W.sep x1, h1, fun ds S2 h2 ρ2 H2 vs x2 W2 r2 => ⟨ρ2, S2, d, ds, R, W2, r.ext W1.sep x2, r2, h2, (p.ext W1 x1).ext W2 x2⟩⟩⟩⟩

def dAppend : DMt := fun d ds S R => ∃ l xs y, d = .loc l ∧ ds = [y] ∧ S[l]? = some (.lst xs) ∧ xs.length < sizeLine ∧ R .non (S.set l (.lst (xs ++ [y])))
theorem md_append : MtR X "list.append" (rMD X dAppend) := MtR.imp mt_append fun x us H Q ⟨ρ, S, d, ds, R, W, r1, r2, ⟨l, xs, y, e1, e2, g, hz, q⟩, p⟩ => by
  subst e1 e2
  obtain ⟨a, h1, rfl⟩ := r1.loc_of
  obtain ⟨v, rfl, rv⟩ := r2.one_of
  obtain ⟨vs, h3, h4⟩ := W.obj l a _ h1 g
  obtain ⟨x1, W1⟩ := write_lst (xs := xs) W h1 h3 (h4.snoc rv)
  exact ⟨a, vs, v, rfl, rfl, h3, by rw [h4.length]; exact hz, p _ _ q ρ _ _ x1 W1 .non⟩
def dExtend : DMt := fun d ds S R => ∃ l m xs ys, d = .loc l ∧ ds = [.loc m] ∧ S[l]? = some (.lst xs) ∧ S[m]? = some (.lst ys) ∧ xs.length + ys.length ≤ sizeLine ∧ R .non (S.set l (.lst (xs ++ ys)))
theorem md_extend : MtR X "list.extend" (rMD X dExtend) := MtR.imp mt_extend fun x us H Q ⟨ρ, S, d, ds, R, W, r1, r2, ⟨l, m, xs, ys, e1, e2, g, g2, hz, q⟩, p⟩ => by
  subst e1 e2
  obtain ⟨a, h1, rfl⟩ := r1.loc_of
  obtain ⟨v, rfl, rv⟩ := r2.one_of
  obtain ⟨b, h2, rfl⟩ := rv.loc_of
  obtain ⟨vs, h3, h4⟩ := W.obj l a _ h1 g
  obtain ⟨ws, h5, h6⟩ := W.obj m b _ h2 g2
  obtain ⟨x1, W1⟩ := write_lst (xs := xs) W h1 h3 (h4.append h6)
  exact ⟨a, b, vs, ws, rfl, rfl, h3, h5, by rw [h4.length, h6.length]; exact hz, p _ _ q ρ _ _ x1 W1 .non⟩
theorem VRs.dropLast {K : PySem.W.Frag} {ds : List D} {vs : List V} (h : VRs K ρ H ds vs) : VRs K ρ H ds.dropLast vs.dropLast := by
  rw [List.dropLast_eq_take, List.dropLast_eq_take, h.length]
  exact h.take _
theorem VRs.eraseIdx {K : PySem.W.Frag} : ∀ {ds : List D} {vs : List V} (i : Nat), VRs K ρ H ds vs → VRs K ρ H (ds.eraseIdx i) (vs.eraseIdx i)
  | [], vs, i, h => by
    cases h.nil_of
    exact .nil
  | d :: ds, vs, i, h => by
    unfold VRs at h
    obtain ⟨v, vr, rfl, h2, h3⟩ := h
    cases i with
    | zero => exact h3
    | succ i => exact .cons h2 (VRs.eraseIdx i h3)
def dPop : DMt := fun d ds S R => ∃ l xs y, d = .loc l ∧ ds = [] ∧ S[l]? = some (.lst xs) ∧ xs[xs.length - 1]? = some y ∧ R y (S.set l (.lst xs.dropLast))
theorem md_pop : MtR X "list.pop" (rMD X dPop) := MtR.imp mt_pop fun x us H Q ⟨ρ, S, d, ds, R, W, r1, r2, ⟨l, xs, y, e1, e2, g, hy, q⟩, p⟩ => by
  subst e1 e2
  obtain ⟨a, h1, rfl⟩ := r1.loc_of
  cases r2.nil_of
  obtain ⟨vs, h3, h4⟩ := W.obj l a _ h1 g
  obtain ⟨x1, W1⟩ := write_lst (xs := xs) W h1 h3 h4.dropLast
  obtain ⟨v, hv, rv⟩ := h4.get hy
  exact ⟨a, vs, v, rfl, rfl, h3, by rw [h4.length]; exact hv, p _ _ q ρ _ _ x1 W1 (rv.ext W.sep x1)⟩
def dPopAt : DMt := fun d ds S R => ∃ l xs i k y, d = .loc l ∧ ds = [.int i] ∧ S[l]? = some (.lst xs) ∧ -(2 ^ 63) ≤ i ∧ i < 2 ^ 63 ∧ seqIndex? i xs.length = some k ∧ xs[k]? = some y ∧ R y (S.set l (.lst (xs.eraseIdx k)))
theorem md_popAt : MtR X "list.pop" (rMD X dPopAt) := MtR.imp mt_popAt fun x us H Q ⟨ρ, S, d, ds, R, W, r1, r2, ⟨l, xs, i, k, y, e1, e2, g, b1, b2, hk, hy, q⟩, p⟩ => by
  subst e1 e2
  obtain ⟨a, h1, rfl⟩ := r1.loc_of
  obtain ⟨u, rfl, ru⟩ := r2.one_of
  cases ru.int_of
  obtain ⟨vs, h3, h4⟩ := W.obj l a _ h1 g
  obtain ⟨x1, W1⟩ := write_lst (xs := xs) W h1 h3 (h4.eraseIdx k)
  obtain ⟨v, hv, rv⟩ := h4.get hy
  exact ⟨a, vs, i, k, v, rfl, rfl, h3, b1, b2, by rw [h4.length]; exact hk, hv, p _ _ q ρ _ _ x1 W1 (rv.ext W.sep x1)⟩
theorem VRs.reverse {K : PySem.W.Frag} : ∀ {ds : List D} {vs : List V}, VRs K ρ H ds vs → VRs K ρ H ds.reverse vs.reverse
  | [], vs, h => by
    cases h.nil_of
    exact .nil
  | d :: ds, vs, h => by
    unfold VRs at h
    obtain ⟨v, vr, rfl, h2, h3⟩ := h
    rw [List.reverse_cons, List.reverse_cons]
    exact (VRs.reverse h3).snoc h2
def dReverse : DMt := fun d ds S R => ∃ l xs, d = .loc l ∧ ds = [] ∧ S[l]? = some (.lst xs) ∧ R .non (S.set l (.lst xs.reverse))
theorem md_reverse : MtR X "list.reverse" (rMD X dReverse) := MtR.imp mt_reverse fun x us H Q ⟨ρ, S, d, ds, R, W, r1, r2, ⟨l, xs, e1, e2, g, q⟩, p⟩ => by
  subst e1 e2
  obtain ⟨a, h1, rfl⟩ := r1.loc_of
  cases r2.nil_of
  obtain ⟨vs, h3, h4⟩ := W.obj l a _ h1 g
  obtain ⟨x1, W1⟩ := write_lst (xs := xs) W h1 h3 h4.reverse
  exact ⟨a, vs, rfl, rfl, h3, p _ _ q ρ _ _ x1 W1 .non⟩
def dClear : DMt := fun d ds S R => ∃ l xs, d = .loc l ∧ ds = [] ∧ S[l]? = some (.lst xs) ∧ R .non (S.set l (.lst []))
theorem md_clear : MtR X "list.clear" (rMD X dClear) := MtR.imp mt_clear fun x us H Q ⟨ρ, S, d, ds, R, W, r1, r2, ⟨l, xs, e1, e2, g, q⟩, p⟩ => by
  subst e1 e2
  obtain ⟨a, h1, rfl⟩ := r1.loc_of
  cases r2.nil_of
  obtain ⟨vs, h3, h4⟩ := W.obj l a _ h1 g
  obtain ⟨x1, W1⟩ := write_lst (xs := xs) W h1 h3 .nil
  exact ⟨a, vs, rfl, rfl, h3, p _ _ q ρ _ _ x1 W1 .non⟩
/-- sep.join(xs) -/
def strsD : List D → Option (List Str)
  | [] => some []
  | .str x :: r => (strsD r).map (x :: ·)
  | _ :: _ => none
theorem strsD_ok : ∀ {ds : List D} {ys : List Str} {vs : List V}, strsD ds = some ys → VRs X.K ρ H ds vs → vs = ys.map V.str
  | [], ys, vs, e, h => by
    cases h.nil_of
    have e' : some [] = some ys := e
    cases e'
    rfl
  | d :: ds, ys, vs, e, h => by
    unfold VRs at h
    obtain ⟨v, vr, rfl, h1, h2⟩ := h
    cases d with
    | str x =>
      have e' : (strsD ds).map (x :: ·) = some ys := e
      cases e1 : strsD ds with
      | none =>
        rw [e1] at e'
        cases e'
      | some ys' =>
        rw [e1] at e'
        cases e'
        rw [strsD_ok e1 h2, h1.str_of]
        rfl
    | non => cases e
    | int _ => cases e
    | bl _ => cases e
    | tup _ => cases e
    | fls _ => cases e
    | loc _ => cases e
def dJoin : DMt := fun d ds S R => ∃ a e xs ys, d = .str a ∧ ds = [e] ∧ seqD S e = some xs ∧ strsD xs = some ys ∧ (ys.map (·.length)).sum + ys.length * a.length ≤ 16777216 ∧ R (.str (Txt.join a ys)) S
theorem md_join : MtR X "str.join" (rMD X dJoin) := MtR.imp mt_join fun x us H Q ⟨ρ, S, d, ds, R, W, r1, r2, ⟨a, e, xs, ys, e1, e2, g, g2, hz, q⟩, p⟩ => by
  subst e1 e2
  obtain ⟨v, rfl, rv⟩ := r2.one_of
  obtain ⟨b, vs, rfl, h1, h2⟩ := seqD_ok W rv g
  refine ⟨a, b, ys, r1.str_of, rfl, ?_, hz, p _ _ q ρ H _ (Ext.refl _ _) W .str⟩
  rw [← strsD_ok g2 h2]
  exact h1
/-- a text times a number -/
def repS (x : Str) (n : Nat) : Str := ⟨((List.replicate n x.cps.toList).flatten).toArray⟩
theorem foldl_app (x : Array Nat) : ∀ (n : Nat) (acc : Array Nat), (List.replicate n x).foldl (· ++ ·) acc = acc ++ ((List.replicate n x.toList).flatten).toArray
  | 0, acc => by simp
  | n + 1, acc => by
    rw [List.replicate_succ, List.foldl_cons, foldl_app x n, List.replicate_succ, List.flatten_cons]
    apply Array.ext'
    simp
def dMulS : DOp := fun d1 d2 S R => ∃ x n, d1 = .str x ∧ d2 = .int n ∧ 0 ≤ n ∧ n < 2 ^ 62 ∧ x.length * n.toNat ≤ sizeLine ∧ R (.str (repS x n.toNat)) S
theorem op_mulS : OpR X (binaryOp .Mult) (fun x y H Q => ∃ z n, x = .str z ∧ y = .int n ∧ 0 ≤ n ∧ n < 2 ^ 62 ∧ z.length * n.toNat ≤ sizeLine ∧ Q (.str (repS z n.toNat)) H) := by
  intro pins s σ H x y v u Q I rx ry ⟨z, n, e1, e2, h0, h1, hz, q⟩
  subst e1 e2
  obtain ⟨t, rfl⟩ := rx
  obtain ⟨t', rfl⟩ := ry
  have hsl := sizeLine_eq
  refine PySem.P.mul_str ?_ (fun _ _ => ?_) (fun _ _ => ?_) ?_
  · rw [decide_eq_false (by omega), decide_eq_false (by omega)]
    rfl
  · rename_i h2 h3
    intro h4
    have hn : 1 ≤ n := by omega
    have h5 : (z.length : Int) * n ≤ 16777216 := by
      have : (((z.length * n.toNat : Nat)) : Int) ≤ ((sizeLine : Nat) : Int) := Int.ofNat_le.mpr hz
      rw [Int.natCast_mul, Int.toNat_of_nonneg h0, hsl] at this
      exact this
    have h6 : (2 ^ 63 - 1 : Int) < (z.length : Int) * n := (Int.ediv_lt_iff_lt_mul (by omega)).mp h4
    omega
  · unfold PySem.Builtin.Str.tooLong
    exact decide_eq_false (by omega)
  · by_cases h2 : n < 1
    · rw [if_pos h2]
      have e : n = 0 := by omega
      subst e
      exact ⟨by decide, .str _, H, I.tok _, ⟨_, rfl⟩, q⟩
    · rw [if_neg h2]
      by_cases h3 : (n == 1 || z.length == 0) = true
      · rw [if_pos h3]
        have e : repS z n.toNat = z := by
          unfold repS
          rcases Bool.or_eq_true_iff.mp h3 with h4 | h4
          · have : n = 1 := by simpa using h4
            subst this
            simp [List.replicate]
          · have h5 : z.cps = #[] := by
              have : z.cps.size = 0 := by simpa [Str.length] using h4
              exact Array.eq_empty_of_size_eq_zero this
            obtain ⟨c⟩ := z
            simp only at h5
            subst h5
            simp
        rw [e] at q
        exact ⟨.str _, H, I, ⟨_, rfl⟩, q⟩
      · rw [if_neg h3]
        have e : (⟨(List.replicate n.toNat z.cps).foldl (· ++ ·) #[]⟩ : Str) = repS z n.toNat := by
          unfold repS
          rw [foldl_app]
          simp
        rw [e]
        refine ⟨?_, .str _, H, I.tok _, ⟨_, rfl⟩, q⟩
        have : (repS z n.toNat).length = z.length * n.toNat := by
          simp [repS, Str.length, Nat.mul_comm]
        omega
theorem od_mulS : OpR X (binaryOp .Mult) (rD X dMulS) := OpR.imp op_mulS fun x y H Q ⟨ρ, S, d1, d2, R, W, r1, r2, ⟨z, n, e1, e2, b1, b2, hz, q⟩, p⟩ => by
  subst e1 e2
  exact ⟨z, n, r1.str_of, r2.int_of, b1, b2, hz, p _ _ q ρ H _ (Ext.refl _ _) W .str⟩
def dMul : DOp := opOr dMulI (opOr dMulS dMulL)
theorem od_mul : OpR X (binaryOp .Mult) (rD X dMul) := OpD.or od_mulI (OpD.or od_mulS od_mulL)
/-- -x -/
def wNeg (we : WE) : WE := fun τ S R => we τ S fun d S1 => ∃ i, d = .int i ∧ R (.int (-i)) S1
theorem de_neg {pos : Pos} (he : PE X e (dE X we)) : PE X (.UnaryOp .USub e pos) (dE X (wNeg we)) := PE.imp (pe_un un_neg he) fun σ H Q ⟨ρ, τ, S, R, W, er, h, p⟩ => ⟨ρ, τ, S, _, W, er, h, fun d S1 ⟨i, e1, q⟩ ρ1 H1 v x1 W1 r => by
  subst e1
  exact ⟨i, r.int_of, p _ _ q ρ1 H1 _ x1 W1 .int⟩⟩
end

/-! ### in-place operators, chains as tests, targets of comprehensions -/
section
variable {X : Cx}
theorem oi_addI : OpR X (inplaceOp .Add) (rD X dAddI) := opD_int0 iop_add fun _ _ _ _ => .int
theorem oi_sub : OpR X (inplaceOp .Sub) (rD X dSub) := opD_int0 iop_sub fun _ _ _ _ => .int
theorem oi_addS : OpR X (inplaceOp .Add) (rD X dAddS) := OpR.imp iop_add_str fun x y H Q ⟨ρ, S, d1, d2, R, W, r1, r2, ⟨i, j, e1, e2, hz, q⟩, p⟩ => by
  subst e1 e2
  exact ⟨i, j, r1.str_of, r2.str_of, hz, p _ _ q ρ H _ (Ext.refl _ _) W .str⟩
def dIAdd : DOp := opOr dAddI dAddS
theorem oi_add : OpR X (inplaceOp .Add) (rD X dIAdd) := OpD.or oi_addI oi_addS
variable {a b c : Expr} {wa wb wc : WE} {pos : Pos}
theorem dt_chain {op op' : CmpOp} {o o' : DOp} (ho : OpR X (compareOp op) (rD X o)) (ho' : OpR X (compareOp op') (rD X o')) (ha : PE X a (dE X wa)) (hb : PE X b (dE X wb)) (hc : PE X c (dE X wc))
    (hm : lastMarks [op, op'] [b, c] = false := by with_unfolding_all rfl) : PT X (.Compare a [op, op'] [b, c] pos) (dT X (wTest (wChain o o' wa wb wc))) := PT.imp (pt_chain ho ho' ha hb hc hm) fun _ _ _ => test_pass fun _ _ _ => chain_pass
theorem de_chain {op op' : CmpOp} {o o' : DOp} (ho : OpR X (compareOp op) (rD X o)) (ho' : OpR X (compareOp op') (rD X o')) (ha : PE X a (dE X wa)) (hb : PE X b (dE X wb)) (hc : PE X c (dE X wc))
    (hm : lastMarks [op, op'] [b, c] = false := by with_unfolding_all rfl) : PE X (.Compare a [op, op'] [b, c] pos) (dE X (wChain o o' wa wb wc)) := PE.imp (pe_chain ho ho' ha hb hc hm) fun _ _ _ => chain_pass
theorem pg_nm {i : Nat} {x : Str} {pos : Pos} (hN : X.N.Nodup) (hi : X.N[i]? = some x := by rfl) (hx : Loc X.env.scope x := by first | exact Or.inl rfl | exact Or.inr rfl) (hf : X.fn x = true ∨ X.env.scope.names.lookup x = some .local := by first | exact .inl rfl | exact .inr rfl | assumption) : PG X (.Name x pos) (gName i) := pg_name hN hi hx hf
def dInB : DOp := opOr dInQ dInS
def dNotInB : DOp := opOr dNotInQ dNotInS
theorem od_inB (hu : X.A.units + 150 < cLine) : OpR X (compareOp .In) (rD X dInB) := OpD.or (od_inQ hu) od_inS
theorem od_notInB (hu : X.A.units + 150 < cLine) : OpR X (compareOp .NotIn) (rD X dNotInB) := OpD.or (od_notInQ hu) od_notInS
end

/-! ## defs -/
def startD (n : Nat) (ds : List D) : DEnv := ds.map some ++ List.replicate (n - ds.length) none
theorem er_start {K : PySem.W.Frag} {ρ : List Addr} {H : Hp} {ds : List D} {vs : List V} {N : List Str} (h : VRs K ρ H ds vs) (hl : ds.length ≤ N.length) : ER K ρ H (startD N.length ds) (L2.start N vs) := by
  unfold startD L2.start
  refine ⟨by simp [h.length], fun i d e => ?_⟩
  by_cases hi : i < ds.length
  · rw [List.getElem?_append_left (by simpa using hi), List.getElem?_map] at e
    cases q : ds[i]? with
    | none =>
      rw [q] at e
      cases e
    | some d' =>
      rw [q] at e
      cases e
      obtain ⟨v, h1, h2⟩ := h.get q
      refine ⟨v, ?_, h2⟩
      rw [List.getElem?_append_left (by simpa [h.length] using hi), List.getElem?_map, h1]
      rfl
  · rw [List.getElem?_append_right (by simpa using hi)] at e
    have := List.mem_of_getElem? e
    have := List.eq_of_mem_replicate this
    cases this
/-- what is wanted behind a def's body -/
abbrev endsD (R : DQ) : DEnds := { nx := fun _ S => R .non S, rt := R }
/-- a def of the text by its body (as Fun.ok over fn_of, where no value is being shown) -/
theorem Fun.okG {P : Program} {w : World} {K : PySem.W.Frag} {mg : Str → Option Value} {base : Heap} {x qual : Str} {st : Stmt} {f : Addr} {fd : FuncData} {N ps : List Str} {k : Nat} {sp : Sp} (F : Fun K x qual st f fd) (S : FnScope N ps (defScope st)) (len : ∀ vs H Q E, sp vs H Q E → vs.length = ps.length)
    (hbody : ∀ (cdv : Value) (A : Around) (outer : List Env) (s : Shared) (H : Hp) (vs : List V) (Q : VK) (E : XK), RoomG k (A.deeper (envOfC qual (defScope st) s.heap.objs.size f cdv)) → sp vs H Q E →
      ∃ t, PSs (cxOf CX0 P w K mg base N qual (defScope st) f cdv A outer s H E).nox (defBody st) t ∧ t { nx := fun _ H' => Q .non H', rt := Q } (L2.start N vs) H) : FnG P w K mg base CX0 (k + 1) f fd ps sp := by
  obtain ⟨oc, od, kV, doc, pm, an, cdv, ct, osl, rfl, lk, hcd⟩ := F.ex
  refine ⟨len, fun A outer s H args us vs Q E hr e0 hb r hsp => ?_⟩
  have hl := len _ _ _ _ hsp
  have KX : K.In s.heap := e0.mod.kin.keeps fun b o e => (e0.bs b o e).1
  have lim : s.heap.NoLimit := e0.mod.nolimit.keeps fun b o e => (e0.bs b o e).1
  have hkind : ∀ y ∈ ps.zip us, (defScope st).names.lookup y.1 = some .local ∨ ((defScope st).names.lookup y.1 = some .cell ∧ ((cellsFrom (s.heap.objs.size + 1) (defScope st).names []).lookup y.1).isSome = true) := fun ⟨n, v⟩ hy => by
    rcases S.par n (List.of_mem_zip hy).1 with q | q
    · exact .inl q
    · exact .inr ⟨q, PySem.W.cellsFrom_some _ _ _ (.inl q)⟩
  refine codeAny_call_function hr.room.depth (KX _ _ lk) rfl S.co S.gen rfl (PySem.W.codeRec_of KX hcd) (hb _ _ _ _ ?_)
  refine wpAny_newFunctionEnv_cells S.kind hkind fun env he s1 x => ?_
  subst he
  refine ⟨lim.keeps x.toInCall.keep, codeAny_func ?_⟩
  obtain ⟨t, ht0, hq⟩ := hbody cdv A outer s H vs Q E (hr.deeper _) hsp
  have ht := ht0.nox
  have I : Inv (cxOf CX0 P w K mg base N qual (defScope st) f cdv A outer s H E) [] (L2.start N vs) H s1 := inv_start S hr.room.hd e0 hl r x
  refine wpAny_mono (ht.run [] s1 (L2.start N vs) H _ I hq) (fun fl s' hs => ?_) fun e s' hs => hs
  have fin : ∀ {σ' : L2.St} {H' : Hp} {v : V} {u : Value}, Inv (cxOf CX0 P w K mg base N qual (defScope st) f cdv A outer s H E) [] σ' H' s' → RelV v u → Q v H' → CE outer P w H s Q u s' :=
    fun {σ' H' v u} J rv q => ⟨v, H', J.os, J.bare, J.base, J.hok, rv, q⟩
  cases fl with
  | ret u =>
    obtain ⟨v, σ', H', J, rv, q⟩ := hs
    exact fin J rv q
  | next =>
    obtain ⟨σ', H', J, q⟩ := hs
    exact fin (v := V.non) (u := Value.none) J rfl q
  | brk =>
    obtain ⟨_, _, _, q⟩ := hs
    exact False.elim q
  | cont =>
    obtain ⟨_, _, _, q⟩ := hs
    exact False.elim q
theorem fn_ok {P : Program} {w : World} {K : PySem.W.Frag} {mg : Str → Option Value} {base : Heap} {x qual : Str} {st : Stmt} {f : Addr} {fd : FuncData} {N ps : List Str} {k : Nat} {sp : DSp} {ws : WS} (F : Fun K x qual st f fd) (Sc : FnScope N ps (defScope st))
    (hps : ps.length ≤ N.length) (hlen : ∀ ds S R, sp ds S R → ds.length = ps.length)
    (body : ∀ (cdv : Value) (A : Around) (outer : List Env) (s : Shared) (H : Hp) (E : XK), RoomG k (A.deeper (envOfC qual (defScope st) s.heap.objs.size f cdv)) →
      PSs (cxOf CX0 P w K mg base N qual (defScope st) f cdv A outer s H E).nox (defBody st) (dS (cxOf CX0 P w K mg base N qual (defScope st) f cdv A outer s H E).nox ws))
    (sem : ∀ ds S R, sp ds S R → ws (endsD R) (startD N.length ds) S) : FnG P w K mg base CX0 (k + 1) f fd ps (spD w K mg sp) := by
  refine Fun.okG F Sc (fun vs H Q E ⟨ρ, S, ds, R, W, r, h, _⟩ => by rw [r.length]; exact hlen _ _ _ h) (fun cdv A outer s H vs Q E hr ⟨ρ, S, ds, R, W, r, h, p⟩ => ?_)
  refine ⟨_, body cdv A outer s H E hr, ρ, startD N.length ds, S, endsD R, W, er_start r (by rw [hlen _ _ _ h]; exact hps), sem _ _ _ h, fun τ S' q ρ' H' σ x1 W1 er => ?_, fun d S' q ρ' H' v x1 W1 rv => ?_, fun τ S' q => q.elim, fun τ S' q => q.elim⟩
  · exact p _ _ q ρ' H' _ x1 W1 .non
  · exact p _ _ q ρ' H' v x1 W1 rv
theorem fn_mk {P : Program} {w : World} {K : PySem.W.Frag} {mg : Str → Option Value} {base : Heap} {x qual : Str} {st : Stmt} {f : Addr} {fd : FuncData} {N ps : List Str} {k : Nat} {sp : DSp} {ws : WS} (F : Fun K x qual st f fd) (Sc : FnScope N ps (defScope st))
    (hf : mg x = some (.ref f)) (hb : Binds K fd ps []) (hps : ps.length ≤ N.length) (hlen : ∀ ds S R, sp ds S R → ds.length = ps.length)
    (body : ∀ (cdv : Value) (A : Around) (outer : List Env) (s : Shared) (H : Hp) (E : XK), RoomG k (A.deeper (envOfC qual (defScope st) s.heap.objs.size f cdv)) →
      PSs (cxOf CX0 P w K mg base N qual (defScope st) f cdv A outer s H E).nox (defBody st) (dS (cxOf CX0 P w K mg base N qual (defScope st) f cdv A outer s H E).nox ws))
    (sem : ∀ ds S R, sp ds S R → ws (endsD R) (startD N.length ds) S) : FnD P w K mg base (k + 1) x sp := ⟨f, fd, ps, fn_ok F Sc hps hlen body sem, hf, F.kp, hb⟩
theorem room_units {k : Nat} {A : Around} (r : RoomG k A) : A.units + 150 < cLine := by have := r.room.un; omega

/-! ## the law's end -/
/-- the script, of any ints -/
def scriptD (ns : List Int) : D := .fls (ns.map D.int)
theorem vrs_ints {K : PySem.W.Frag} {ρ : List Addr} {H : Hp} : ∀ ns : List Int, VRs K ρ H (ns.map D.int) (ns.map V.int)
  | [] => .nil
  | n :: ns => .cons .int (vrs_ints ns)
theorem wd_nil {w : World} {K : PySem.W.Frag} {mg : Str → Option Value} {H : Hp} : Wd w K mg [] [] H := ⟨rfl, List.nodup_nil, fun l a o h => by simp at h⟩
/-- nothing is tracked but the script (as law_call, where no value is being shown) -/
theorem law_callG {P : Program} {w : World} {K : PySem.W.Frag} {mg mb : Str → Option Value} {CX : CXT} {k : Nat} {fa a : Addr} {fd : FuncData} {x : Str} {sp : Sp} {s₁ : Shared} {vs : List Value} {ns : List Int}
    (KX : K.In s₁.heap) (hns : s₁.heap.Ns mainGlobals mg) (hb : s₁.heap.Ns builtinsNs mb) (hbb : ∀ x : Str, x ≠ "__name__" → mb x = bootBuiltins x) (hlim : s₁.heap.NoLimit) (hg : s₁.gens = #[])
    (ha : s₁.heap.get? a = some { cls := .type "list", data := .seq vs.toArray }) (hi : IntsAre vs ns) (hl : ns.length ≤ sizeLine) (hr : RoomG k callerA)
    (F : ∀ base : Heap, K.In base → base.Ns mainGlobals mg → FnG P w K mg base CX k fa fd [x] sp) (hbind : ∀ (s : Shared) (u : Value), BindsTo s fd ⟨[u], []⟩ [(x, u)])
    (hsp : ∀ H : Hp, Only H → SqL K H a (ns.map V.int) → sp [.ref a] H (fun v _ => v = .bl true) fun _ _ _ => False)
    (hCX : ∀ H e s', CX [] H s₁ (fun _ _ _ => False) e s' → False) :
    codeAny (model P w) callerA (.call (.ref fa) ⟨[.ref a], []⟩) (fun r s' => r = .ok (.ret (.bool true)) ∧ OldK s₁.heap s'.heap ∧ s'.os = s₁.os ∧ AllBare s'.gens) s₁ := by
  have rv := vals_ints hi
  have lenV := hi.length
  have core : ∀ H : Hp, Only H → SqL K H a (ns.map V.int) → HOk P w H s₁.heap → (∀ b, H b ≠ none → b = a) → (H a ≠ none → K.lookup a = none) →
      codeAny (model P w) callerA (.call (.ref fa) ⟨[.ref a], []⟩) (fun r s' => r = .ok (.ret (.bool true)) ∧ OldK s₁.heap s'.heap ∧ s'.os = s₁.os ∧ AllBare s'.gens) s₁ := by
    intro H hO hS hok hA hK
    have tracked : ∀ {b : Addr}, H b ≠ none → b = a := fun {b} h => hA b h
    have base_of : ∀ {b : Addr} {o : Obj}, s₁.heap.get? b = some o → H b = none → (hidT s₁.heap H).get? b = some o := fun e n => hidT_get e n
    have noA : ∀ {b : Addr} {o : Obj} {es : Array DictEntry} {ep : Nat}, s₁.heap.get? b = some o → o.data = .dict es ep → H b = none := fun {b o es ep} e d => by
      by_cases q : H b = none
      · exact q
      · have e' := tracked q
        subst e'
        rw [ha] at e
        cases e
        cases (show Data.seq vs.toArray _ = Data.dict es ep from d)
    have nsK : ∀ {b : Addr} {m : Str → Option Value}, s₁.heap.Ns b m → (hidT s₁.heap H).Ns b m := fun {b m} ⟨o, es, ep, e, d, r⟩ => ⟨o, es, ep, base_of e (noA e d), d, r⟩
    have hKb : K.In (hidT s₁.heap H) := fun b o e => base_of (KX b o e) (by
      by_cases q : H b = none
      · exact q
      · have e' := tracked q
        subst e'
        rw [hK q] at e
        cases e)
    have hM : Mod K mg (hidT s₁.heap H) := ⟨hKb, nsK hns, ⟨mb, nsK hb, hbb⟩, let ⟨mc, h1, h2⟩ := hlim; ⟨mc, nsK h1, h2⟩⟩
    have e0 : Env0 P w K mg (hidT s₁.heap H) callerA [] s₁ H := ⟨rfl, hM, fun b o e => of_hidT e, Nat.le_of_eq (hidT_size _ _), trivial, fun b hb => absurd (show b ∈ ([] : List Addr) from hb) (by simp), hok, .of_eq hg⟩
    refine codeAny_mono ((F _ hKb (nsK hns)).run callerA [] s₁ H ⟨[.ref a], []⟩ [.ref a] [.ref a] _ _ hr e0 (hbind s₁ (.ref a)) (.cons rfl .nil) (hsp H hO hS)) fun r s' h => ?_
    cases r with
    | error e => exact (hCX H e s' h).elim
    | ok fl =>
      cases fl with
      | next => exact False.elim h
      | brk => exact False.elim h
      | cont => exact False.elim h
      | ret u =>
        obtain ⟨v, H', os, bare, un, hok', r', q⟩ := h
        obtain rfl : v = .bl true := q
        obtain rfl : u = Value.bool true := r'
        refine ⟨rfl, OldK.of_keep fun b o e => ?_, os, bare⟩
        by_cases q : H b = none
        · exact un.keep b o e q (by intro z; exact absurd (show b ∈ ([] : List Addr) from z) (by simp)) (by simp)
        · rcases hO b with z | ⟨ob, xs, z⟩
          · exact absurd z q
          · obtain ⟨e1, _⟩ := hok b _ z
            obtain ⟨e2, _⟩ := hok' b _ (un.frzs b ob _ z)
            rw [e] at e1
            cases e1
            exact e2
  cases hk : K.lookup a with
  | some o =>
    have e := KX a o hk
    rw [ha] at e
    cases e
    refine core (fun _ => none) (fun _ => .inl rfl) (.inr ⟨_, vs.toArray, _, hk, rfl, rfl, rfl, by rw [List.size_toArray, lenV]; exact hl, by simpa using rv⟩) (fun b u z => by cases (show (none : Option HO) = some u from z)) (fun b z => absurd rfl z) fun z => absurd rfl z
  | none =>
    refine core (fun b => if b = a then some (.frz { cls := .type "list", data := .seq vs.toArray } (.lst (ns.map V.int))) else none) (fun b => ?_) (.inl (.inr ⟨{ cls := .type "list", data := .seq vs.toArray }, if_pos rfl⟩)) (fun b u z => ?_) (fun b z => ?_) fun _ => hk
    · by_cases hb : b = a
      · exact .inr ⟨_, _, if_pos hb⟩
      · exact .inl (if_neg hb)
    · by_cases hb : b = a
      · have z' := (if_pos hb).symm.trans z
        cases z'
        subst hb
        exact ⟨ha, by rw [List.length_map]; exact hl, vs, _, rv, ha⟩
      · have z' := (if_neg hb).symm.trans z
        cases z'
    · by_cases hb : b = a
      · exact hb
      · exact absurd (if_neg hb) z
theorem walk_ofG {l : PySem.W.OpenLaw} {n k : Nat} {q : Program} {loose : List Str} {XP : (Str → Option Value) → Heap → Prop} {YP : World → Heap → Prop} {d : DefRec} {K : Params → PySem.W.Frag} {CX : World → CXT} {sp : World → Sp} {x : Str}
    (hn : l.most = some n) (hn2 : n ≤ sizeLine) (hdf : d.params.defaults = []) (hr : RoomG k callerA)
    (hY : ∀ (w : World) (h : Heap), YP w h → (K w.params).In h)
    (F : ∀ (w : World) (mg : Str → Option Value) (fa : Addr) (h : Heap), (K w.params).In h → h.Ns mainGlobals mg → mg d.name = some (.ref fa) →
      ∃ fd : FuncData, (∀ (s : Shared) (u : Value), BindsTo s fd ⟨[u], []⟩ [(x, u)]) ∧
        ∀ base : Heap, (K w.params).In base → base.Ns mainGlobals mg → FnG l.prog w (K w.params) mg base (CX w) k fa fd [x] (sp w))
    (hsp : ∀ (w : World) (H : Hp) (a : Addr) (ns : List Int), ns.length ≤ n → Only H → SqL (K w.params) H a (ns.map V.int) → sp w [.ref a] H (fun v _ => v = .bl true) fun _ _ _ => False)
    (hCX : ∀ (w : World) (H : Hp) (s : Shared) (e : Value) (s' : Shared), CX w [] H s (fun _ _ _ => False) e s' → False) :
    PySem.W.WalkO q loose XP YP l.row.toRowW d [] (fun f vs => PySem.call f vs) := by
  refine Att.attach_call hn hdf fun w s₀ s₁ mg mb fa o pm cd doc a vs ns G Y ho hd hcd hmg hobj hints hlen hg => ?_
  have KX := hY w _ Y
  obtain ⟨fd, hb, hF⟩ := F w mg fa _ KX G.T.g hmg
  exact law_callG KX G.T.g G.T.b G.T.builtins G.T.nolimit hg hobj hints (Nat.le_trans hlen hn2) hr hF hb (fun H hO hS => hsp w H a ns hlen hO hS) fun H e s' => hCX w H s₁ e s'
theorem walk_mk {l : PySem.W.OpenLaw} {n k : Nat} {q : Program} {loose : List Str} {XP : (Str → Option Value) → Heap → Prop} {YP : World → Heap → Prop} {d : DefRec} {K : Params → PySem.W.Frag} {sp : DSp} {x : Str}
    (hn : l.most = some n) (hn2 : n ≤ sizeLine) (hdf : d.params.defaults = []) (hr : RoomG k callerA)
    (hY : ∀ (w : World) (h : Heap), YP w h → (K w.params).In h)
    (F : ∀ (w : World) (mg : Str → Option Value) (fa : Addr) (h : Heap), (K w.params).In h → h.Ns mainGlobals mg → mg d.name = some (.ref fa) →
      ∃ fd : FuncData, (∀ (s : Shared) (u : Value), BindsTo s fd ⟨[u], []⟩ [(x, u)]) ∧
        ∀ base : Heap, (K w.params).In base → base.Ns mainGlobals mg → FnG l.prog w (K w.params) mg base CX0 k fa fd [x] (spD w (K w.params) mg sp))
    (hsp : ∀ ns : List Int, ns.length ≤ n → sp [scriptD ns] [] fun v _ => v = .bl true) :
    PySem.W.WalkO q loose XP YP l.row.toRowW d [] (fun f vs => PySem.call f vs) := by
  refine walk_ofG (n := n) (k := k) (x := x) (CX := fun _ => CX0) (sp := fun w => fun vs H Q E => ∀ mg, spD w (K w.params) mg sp vs H Q E) hn hn2 hdf hr hY (fun w mg fa h h1 h2 h3 => ?_) (fun w H a ns hl hO hS mg => ?_) fun _ _ _ _ _ z => z
  · obtain ⟨fd, hb, hF⟩ := F w mg fa h h1 h2 h3
    exact ⟨fd, hb, fun base b1 b2 => (hF base b1 b2).imp fun vs H Q E hh => hh mg⟩
  · refine ⟨[], [], [scriptD ns], _, wd_nil, .cons (.fls ?_ (vrs_ints ns)) .nil, hsp ns hl, fun d S' e ρ' H' v x1 W1 rv => ?_⟩
    · rcases hS with (h1 | ⟨o, h1⟩) | h1
      · rcases hO a with h2 | ⟨o, xs, h2⟩
        · rw [h2] at h1
          cases h1
        · rw [h2] at h1
          cases h1
      · exact .inl ⟨o, h1⟩
      · exact .inr (.inr h1)
    · subst e
      exact rv.bl_of
end Dl

namespace Dl
open PySem L2

/-! ## dicts of any keys: looking up -/
/-- the entries bear the keys ks -/
structure KsAt (w : World) (h : Heap) (es : Array DictEntry) (ks : List NestedKey) : Prop where
  len : es.size = ks.length
  at_ : ∀ (j : Nat) (e : DictEntry), es[j]? = some e → ∃ k, ks[j]? = some k ∧ NestedIs h k e.key ∧ k.depth ≤ 8 ∧ e.hash = k.hash w
  nd : ks.Nodup
theorem KsAt.one {w : World} {h : Heap} {es : Array DictEntry} {ks : List NestedKey} (K : KsAt w h es ks) {i j : Nat} {k : NestedKey} (hi : ks[i]? = some k) (hj : ks[j]? = some k) : i = j :=
  (List.getElem?_inj (List.getElem?_eq_some_iff.mp hi).1 K.nd).mp (hi.trans hj.symm)
theorem KsAt.here {w : World} {h : Heap} {es : Array DictEntry} {ks : List NestedKey} (K : KsAt w h es ks) {j : Nat} {k : NestedKey} (hj : ks[j]? = some k) : ∃ e, es[j]? = some e ∧ NestedIs h k e.key ∧ k.depth ≤ 8 ∧ e.hash = k.hash w := by
  have h1 : j < es.size := by rw [K.len]; exact (List.getElem?_eq_some_iff.mp hj).1
  have h2 : es[j]? = some es[j] := Array.getElem?_eq_getElem h1
  obtain ⟨k', h3, h4⟩ := K.at_ j _ h2
  rw [hj] at h3
  cases h3
  exact ⟨_, h2, h4⟩
section
variable {prog : Program} {w : World} {A : Around} {E : Value → Shared → Prop} {s : Shared}
theorem nd_quiet {k : NestedKey} {v : Value} {vs : List Value} {Q : Bool → Shared → Prop} (h1 : NestedIs s.heap k v ∧ k.depth ≤ 8) (h2 : ∀ u ∈ vs, ∃ k', NestedIs s.heap k' u ∧ k'.depth ≤ 8) (q : Q false s) :
    wpAny (model prog w) A (tableMayTell v vs) Q E s := by
  unfold tableMayTell
  by_cases he : vs.isEmpty = true
  · rw [if_pos he]
    exact wpAny_pure q
  · rw [if_neg he]
    refine wpAny_bind (quiet_key k v 8 s h1.1 h1.2 _ _ _ ?_)
    simp only [Bool.not_true, Bool.false_eq_true, if_false]
    refine wpAny_bind (wpAny_forIn_list _ (fun r b s' => (s' = s ∧ b = (none, ())) ∧ ∀ u ∈ r, ∃ k', NestedIs s.heap k' u ∧ k'.depth ≤ 8) _ ?_ ?_ _ _ ⟨⟨rfl, rfl⟩, h2⟩)
    · rintro u r b s' ⟨⟨rfl, rfl⟩, hr⟩
      obtain ⟨k', h3, h4⟩ := hr u List.mem_cons_self
      refine wpAny_bind (quiet_key k' u 8 _ h3 h4 _ _ _ ?_)
      simp only [Bool.not_true, Bool.false_eq_true, if_false]
      exact wpAny_pure ⟨⟨rfl, rfl⟩, fun z hz => hr z (List.mem_cons_of_mem _ hz)⟩
    · rintro b s' ⟨⟨rfl, rfl⟩, _⟩
      exact wpAny_pure q

/-- what the search tells -/
def Found (ks : List NestedKey) (k : NestedKey) (Q : Option Nat → Shared → Prop) (s : Shared) : Prop := (k ∉ ks → Q none s) ∧ ∀ j, ks[j]? = some k → Q (some j) s
/-- the places that are left, in the search for k -/
structure Left (es : Array DictEntry) (ks : List NestedKey) (k : NestedKey) (rest : List Nat) (hit : Option Nat) : Prop where
  lt : ∀ i ∈ rest, i < es.size
  nd : rest.Nodup
  all : ∀ j, ks[j]? = some k → j ∈ rest ∨ hit = some j
  hit : ∀ j, hit = some j → ks[j]? = some k ∧ j ∉ rest
theorem Left.start {es : Array DictEntry} {ks : List NestedKey} {k : NestedKey} (K : KsAt w s.heap es ks) : Left es ks k (placesWithHash es.size (fun i => es[i]?.map (·.hash)) (k.hash w)) none where
  lt := fun i hi => by
    unfold placesWithHash at hi
    exact List.mem_range.mp (List.mem_filter.mp hi).1
  nd := by
    unfold placesWithHash
    exact List.Pairwise.filter _ List.nodup_range
  all := fun j hj => .inl (by
    obtain ⟨e, h1, _, _, h4⟩ := K.here hj
    unfold placesWithHash
    refine List.mem_filter.mpr ⟨List.mem_range.mpr ?_, ?_⟩
    · rcases Nat.lt_or_ge j es.size with q | q
      · exact q
      · rw [Array.getElem?_eq_none q] at h1
        cases h1
    · simp only [h1, Option.map_some, h4, beq_self_eq_true])
  hit := fun j q => by cases q
theorem Left.next {es : Array DictEntry} {ks : List NestedKey} {k : NestedKey} {i : Nat} {rest : List Nat} {hit : Option Nat} (L : Left es ks k (i :: rest) hit) (h : ks[i]? ≠ some k) : Left es ks k rest hit where
  lt := fun j hj => L.lt j (List.mem_cons_of_mem _ hj)
  nd := (List.nodup_cons.mp L.nd).2
  all := fun j hj => by
    rcases L.all j hj with q | q
    · rcases List.mem_cons.mp q with e | q
      · subst e
        exact absurd hj h
      · exact .inl q
    · exact .inr q
  hit := fun j q => ⟨(L.hit j q).1, fun hj => (L.hit j q).2 (List.mem_cons_of_mem _ hj)⟩
theorem Left.no {es : Array DictEntry} {ks : List NestedKey} {k : NestedKey} {i : Nat} {rest : List Nat} {hit : Option Nat} (L : Left es ks k (i :: rest) hit) (K : KsAt w s.heap es ks) (h : ks[i]? = some k) : hit = none := by
  cases e : hit with
  | none => rfl
  | some j =>
    obtain ⟨h1, h2⟩ := L.hit j e
    cases K.one h h1
    exact absurd List.mem_cons_self h2
theorem Left.took {es : Array DictEntry} {ks : List NestedKey} {k : NestedKey} {i : Nat} {rest : List Nat} {hit : Option Nat} (L : Left es ks k (i :: rest) hit) (K : KsAt w s.heap es ks) (h : ks[i]? = some k) : Left es ks k rest (some i) where
  lt := fun j hj => L.lt j (List.mem_cons_of_mem _ hj)
  nd := (List.nodup_cons.mp L.nd).2
  all := fun j hj => .inr (by rw [K.one hj h])
  hit := fun j q => by
    cases q
    exact ⟨h, (List.nodup_cons.mp L.nd).1⟩
theorem Left.told {es : Array DictEntry} {ks : List NestedKey} {k : NestedKey} {hit : Option Nat} {Q : Option Nat → Shared → Prop} (L : Left es ks k [] hit) (F : Found ks k Q s) : Q hit s := by
  cases e : hit with
  | none =>
    refine F.1 fun hk => ?_
    obtain ⟨j, hj⟩ := List.mem_iff_getElem?.mp hk
    rcases L.all j hj with q | q
    · cases q
    · rw [e] at q
      cases q
  | some j => exact F.2 j (L.hit j e).1
theorem nd_find {d : Addr} {o : Obj} {es : Array DictEntry} {ep : Nat} {ks : List NestedKey} {k : NestedKey} {v : Value} {Q : Option Nat → Shared → Prop} (hu : A.units + 8 < cLine) (hk : NestedIs s.heap k v) (hd8 : k.depth ≤ 8)
    (ho : s.heap.get? d = some o) (hd : o.data = .dict es ep) (K : KsAt w s.heap es ks) (F : Found ks k Q s) : wpAny (model prog w) A (dictFind d v (k.hash w)) Q E s := by
  -- one look at a place
  have look : ∀ (i : Nat) (e : DictEntry) (k' : NestedKey), es[i]? = some e → ks[i]? = some k' → NestedIs s.heap k' e.key → e.hash = k'.hash w → ∀ (q : Bool → Shared → Prop), q (decide (k' = k)) s → wpAny (model prog w) A (eqBool e.key v) q E s :=
    fun i e k' h1 h2 h3 h4 q hq => eqAt_key k' k A s _ _ h3 hk (by omega) _ _ _ _ (by rw [← NestedKey.decide_eq]; exact hq)
  -- the search among keys that are carried by value
  have plain : wpAny (model prog w) A (dictWalkPlain d v (k.hash w) es (placesWithHash es.size (fun i => es[i]?.map (·.hash)) (k.hash w))) Q E s := by
    refine wpAny_bind (wpAny_forIn_list _ (fun r b s' => s' = s ∧ b = (none, ()) ∧ Left es ks k r none) _ ?_ ?_ _ _ ⟨rfl, rfl, .start K⟩)
    · rintro i r b s' ⟨rfl, rfl, L⟩
      have hi := L.lt i List.mem_cons_self
      have he : es[i]? = some es[i] := Array.getElem?_eq_getElem hi
      obtain ⟨k', h1, h2, h3, h4⟩ := K.at_ i _ he
      simp only [he]
      by_cases hh : (es[i].hash == k.hash w) = true
      · rw [if_pos hh]
        refine wpAny_bind (wpAny_dictEpoch ho hd (wpAny_bind (look i _ k' he h1 h2 h4 _ (wpAny_bind (wpAny_dictEpoch ho hd ?_)))))
        rw [if_neg (by simp)]
        by_cases hkk : k' = k
        · subst hkk
          rw [decide_eq_true rfl]
          exact wpAny_bind (wpAny_rule (wpAny_pure (wpAny_pure (F.2 i h1))))
        · rw [decide_eq_false hkk]
          refine wpAny_bind (wpAny_rule (wpAny_pure ⟨rfl, rfl, L.next fun q => hkk ?_⟩))
          rw [h1] at q
          exact Option.some.inj q
      · rw [if_neg hh]
        refine wpAny_pure ⟨rfl, rfl, L.next fun q => hh ?_⟩
        rw [h1] at q
        cases q
        rw [h4, beq_self_eq_true]
    · rintro b s' ⟨rfl, rfl, L⟩
      exact wpAny_pure (L.told F)
  -- the search in general
  unfold dictFind
  try with_reducible refine wpAny_holding ?_
  refine wpAny_bind (wpAny_dictEntries ho hd ?_)
  dsimp only
  have hq : ∀ u ∈ (placesWithHash es.size (fun i => es[i]?.map (·.hash)) (k.hash w)).filterMap (fun i => es[i]?.map (·.key)), ∃ k', NestedIs s.heap k' u ∧ k'.depth ≤ 8 := by
    intro u hm
    obtain ⟨i, _, hi⟩ := List.mem_filterMap.mp hm
    cases he : es[i]? with
    | none =>
      rw [he] at hi
      cases hi
    | some e =>
      rw [he] at hi
      cases hi
      obtain ⟨k', _, h2, h3, _⟩ := K.at_ i e he
      exact ⟨k', h2, h3⟩
  have str : ∀ (x : Str) (t : Tok), v = .str x t → wpAny (model prog w) A (foundByValue d v es x) Q E s := by
    rintro x t rfl
    have ek : k = .text x := by
      cases hk
      rfl
    subst ek
    unfold foundByValue
    cases hf : es.findIdx? (fun e => e.key.isStr x) with
    | none =>
      refine wpAny_pure (F.1 fun hm => ?_)
      obtain ⟨j, hj⟩ := List.mem_iff_getElem?.mp hm
      obtain ⟨e, h1, h2, _⟩ := K.here hj
      have h3 := Array.findIdx?_eq_none_iff.mp hf e (Array.mem_of_getElem? h1)
      cases ee : e.key <;> rw [ee] at h2 <;> cases h2
      rw [ee] at h3
      simp [Value.isStr] at h3
    | some i =>
      obtain ⟨hi, h2, _⟩ := Array.findIdx?_eq_some_iff_getElem.mp hf
      have he : es[i]? = some es[i] := Array.getElem?_eq_getElem hi
      obtain ⟨k', h3, h4, h5, h6⟩ := K.at_ i _ he
      have hkk : k' = .text x := by
        cases ee : es[i].key <;> rw [ee] at h2 h4 <;> simp [Value.isStr] at h2
        subst h2
        cases h4
        rfl
      subst hkk
      simp only [he]
      refine wpAny_bind (wpAny_dictEpoch ho hd (wpAny_bind (look i _ _ he h3 h4 h6 _ (wpAny_bind (wpAny_dictEpoch ho hd ?_)))))
      rw [if_neg (by simp), decide_eq_true rfl]
      exact wpAny_bind (wpAny_rule (wpAny_pure (F.2 i h3)))
  have any : ∀ a, v = .ref a → ¬ (es.any fun e => e.key == v && e.hash != k.hash w) = true := by
    rintro a rfl
    rw [← Array.any_toList, List.any_eq_true]
    rintro ⟨e, hin, hc⟩
    obtain ⟨j, hj⟩ := List.mem_iff_getElem?.mp hin
    rw [Array.getElem?_toList] at hj
    obtain ⟨k', _, h2, _, h4⟩ := K.at_ j e hj
    simp only [Bool.and_eq_true, beq_iff_eq, bne_iff_ne, ne_eq] at hc
    rw [hc.1] at h2
    exact hc.2 (by rw [h4, NestedIs.inj _ _ _ h2 hk])
  split
  · rename_i x t
    by_cases hs : (es.all fun e => isExactStrKey e.key) = true
    · rw [if_pos hs]
      exact str x t rfl
    · rw [if_neg hs]
      by_cases hc : (.str x t :: (placesWithHash es.size (fun i => es[i]?.map (·.hash)) (k.hash w)).filterMap (fun i => es[i]?.map (·.key))).all carriedByValue = true
      · rw [if_pos hc]
        exact plain
      · rw [if_neg hc]
        dsimp only
        by_cases hs1 : ((placesWithHash es.size (fun i => es[i]?.map (·.hash)) (k.hash w)).filterMap (fun i => es[i]?.map (·.key)) == [.str x t]) = true
        · rw [if_pos hs1]
          refine wpAny_bind (wpAny_pure ?_)
          rw [if_neg (by simp)]
          refine wpAny_bind (wpAny_forIn_list _ (fun r b s' => s' = s ∧ b.1 = none ∧ Left es ks k r b.2) _ ?_ ?_ _ _ ⟨rfl, rfl, .start K⟩)
          · rintro i r ⟨b1, b2⟩ s' ⟨rfl, rfl, L⟩
            have hi := L.lt i List.mem_cons_self
            have he : es[i]? = some es[i] := Array.getElem?_eq_getElem hi
            obtain ⟨k', h1, h2, h3, h4⟩ := K.at_ i _ he
            simp only [he]
            by_cases hh : (es[i].hash == k.hash w) = true
            · rw [if_pos hh]
              refine wpAny_bind (wpAny_dictEpoch ho hd (wpAny_bind (look i _ k' he h1 h2 h4 _ (wpAny_bind (wpAny_dictEpoch ho hd ?_)))))
              rw [if_neg (by simp)]
              by_cases hkk : k' = k
              · subst hkk
                cases (show b2 = none from L.no K h1)
                simp only [decide_eq_true, if_true, Option.isSome_none, Bool.false_eq_true, if_false]
                refine wpAny_bind (wpAny_rule ?_)
                split
                · exact wpAny_pure (wpAny_pure (F.2 i h1))
                · exact wpAny_pure ⟨rfl, rfl, L.took K h1⟩
              · simp only [decide_eq_false hkk, Bool.false_and, Bool.false_eq_true, if_false]
                refine wpAny_bind (wpAny_rule (wpAny_pure ⟨rfl, rfl, L.next fun q => hkk ?_⟩))
                rw [h1] at q
                exact Option.some.inj q
            · rw [if_neg hh]
              refine wpAny_pure ⟨rfl, rfl, L.next fun q => hh ?_⟩
              rw [h1] at q
              cases q
              rw [h4, beq_self_eq_true]
          · rintro ⟨b1, b2⟩ s' ⟨rfl, rfl, L⟩
            exact wpAny_pure (L.told F)
        · rw [if_neg hs1]
          refine wpAny_bind (nd_quiet ⟨hk, hd8⟩ hq ?_)
          rw [if_neg (by simp)]
          refine wpAny_bind (wpAny_forIn_list _ (fun r b s' => s' = s ∧ b.1 = none ∧ Left es ks k r b.2) _ ?_ ?_ _ _ ⟨rfl, rfl, .start K⟩)
          · rintro i r ⟨b1, b2⟩ s' ⟨rfl, rfl, L⟩
            have hi := L.lt i List.mem_cons_self
            have he : es[i]? = some es[i] := Array.getElem?_eq_getElem hi
            obtain ⟨k', h1, h2, h3, h4⟩ := K.at_ i _ he
            simp only [he]
            by_cases hh : (es[i].hash == k.hash w) = true
            · rw [if_pos hh]
              refine wpAny_bind (wpAny_dictEpoch ho hd (wpAny_bind (look i _ k' he h1 h2 h4 _ (wpAny_bind (wpAny_dictEpoch ho hd ?_)))))
              rw [if_neg (by simp)]
              by_cases hkk : k' = k
              · subst hkk
                cases (show b2 = none from L.no K h1)
                simp only [decide_eq_true, if_true, Option.isSome_none, Bool.false_eq_true, if_false]
                refine wpAny_bind (wpAny_rule ?_)
                split
                · exact wpAny_pure (wpAny_pure (F.2 i h1))
                · exact wpAny_pure ⟨rfl, rfl, L.took K h1⟩
              · simp only [decide_eq_false hkk, Bool.false_and, Bool.false_eq_true, if_false]
                refine wpAny_bind (wpAny_rule (wpAny_pure ⟨rfl, rfl, L.next fun q => hkk ?_⟩))
                rw [h1] at q
                exact Option.some.inj q
            · rw [if_neg hh]
              refine wpAny_pure ⟨rfl, rfl, L.next fun q => hh ?_⟩
              rw [h1] at q
              cases q
              rw [h4, beq_self_eq_true]
          · rintro ⟨b1, b2⟩ s' ⟨rfl, rfl, L⟩
            exact wpAny_pure (L.told F)
  · by_cases hc : (v :: (placesWithHash es.size (fun i => es[i]?.map (·.hash)) (k.hash w)).filterMap (fun i => es[i]?.map (·.key))).all carriedByValue = true
    · rw [if_pos hc]
      exact plain
    · rw [if_neg hc]
      split
      · rename_i a _
        rw [if_neg (any _ rfl)]
        by_cases hs1 : ((placesWithHash es.size (fun i => es[i]?.map (·.hash)) (k.hash w)).filterMap (fun i => es[i]?.map (·.key)) == [.ref a]) = true
        · rw [if_pos hs1]
          refine wpAny_bind (wpAny_pure ?_)
          rw [if_neg (by simp)]
          refine wpAny_bind (wpAny_forIn_list _ (fun r b s' => s' = s ∧ b.1 = none ∧ Left es ks k r b.2) _ ?_ ?_ _ _ ⟨rfl, rfl, .start K⟩)
          · rintro i r ⟨b1, b2⟩ s' ⟨rfl, rfl, L⟩
            have hi := L.lt i List.mem_cons_self
            have he : es[i]? = some es[i] := Array.getElem?_eq_getElem hi
            obtain ⟨k', h1, h2, h3, h4⟩ := K.at_ i _ he
            simp only [he]
            by_cases hh : (es[i].hash == k.hash w) = true
            · rw [if_pos hh]
              refine wpAny_bind (wpAny_dictEpoch ho hd (wpAny_bind (look i _ k' he h1 h2 h4 _ (wpAny_bind (wpAny_dictEpoch ho hd ?_)))))
              rw [if_neg (by simp)]
              by_cases hkk : k' = k
              · subst hkk
                cases (show b2 = none from L.no K h1)
                simp only [decide_eq_true, if_true, Option.isSome_none, Bool.false_eq_true, if_false]
                refine wpAny_bind (wpAny_rule ?_)
                split
                · exact wpAny_pure (wpAny_pure (F.2 i h1))
                · exact wpAny_pure ⟨rfl, rfl, L.took K h1⟩
              · simp only [decide_eq_false hkk, Bool.false_and, Bool.false_eq_true, if_false]
                refine wpAny_bind (wpAny_rule (wpAny_pure ⟨rfl, rfl, L.next fun q => hkk ?_⟩))
                rw [h1] at q
                exact Option.some.inj q
            · rw [if_neg hh]
              refine wpAny_pure ⟨rfl, rfl, L.next fun q => hh ?_⟩
              rw [h1] at q
              cases q
              rw [h4, beq_self_eq_true]
          · rintro ⟨b1, b2⟩ s' ⟨rfl, rfl, L⟩
            exact wpAny_pure (L.told F)
        · rw [if_neg hs1]
          refine wpAny_bind (nd_quiet ⟨hk, hd8⟩ hq ?_)
          rw [if_neg (by simp)]
          refine wpAny_bind (wpAny_forIn_list _ (fun r b s' => s' = s ∧ b.1 = none ∧ Left es ks k r b.2) _ ?_ ?_ _ _ ⟨rfl, rfl, .start K⟩)
          · rintro i r ⟨b1, b2⟩ s' ⟨rfl, rfl, L⟩
            have hi := L.lt i List.mem_cons_self
            have he : es[i]? = some es[i] := Array.getElem?_eq_getElem hi
            obtain ⟨k', h1, h2, h3, h4⟩ := K.at_ i _ he
            simp only [he]
            by_cases hh : (es[i].hash == k.hash w) = true
            · rw [if_pos hh]
              refine wpAny_bind (wpAny_dictEpoch ho hd (wpAny_bind (look i _ k' he h1 h2 h4 _ (wpAny_bind (wpAny_dictEpoch ho hd ?_)))))
              rw [if_neg (by simp)]
              by_cases hkk : k' = k
              · subst hkk
                cases (show b2 = none from L.no K h1)
                simp only [decide_eq_true, if_true, Option.isSome_none, Bool.false_eq_true, if_false]
                refine wpAny_bind (wpAny_rule ?_)
                split
                · exact wpAny_pure (wpAny_pure (F.2 i h1))
                · exact wpAny_pure ⟨rfl, rfl, L.took K h1⟩
              · simp only [decide_eq_false hkk, Bool.false_and, Bool.false_eq_true, if_false]
                refine wpAny_bind (wpAny_rule (wpAny_pure ⟨rfl, rfl, L.next fun q => hkk ?_⟩))
                rw [h1] at q
                exact Option.some.inj q
            · rw [if_neg hh]
              refine wpAny_pure ⟨rfl, rfl, L.next fun q => hh ?_⟩
              rw [h1] at q
              cases q
              rw [h4, beq_self_eq_true]
          · rintro ⟨b1, b2⟩ s' ⟨rfl, rfl, L⟩
            exact wpAny_pure (L.told F)
      · by_cases hs1 : ((placesWithHash es.size (fun i => es[i]?.map (·.hash)) (k.hash w)).filterMap (fun i => es[i]?.map (·.key)) == [v]) = true
        · rw [if_pos hs1]
          refine wpAny_bind (wpAny_pure ?_)
          rw [if_neg (by simp)]
          refine wpAny_bind (wpAny_forIn_list _ (fun r b s' => s' = s ∧ b.1 = none ∧ Left es ks k r b.2) _ ?_ ?_ _ _ ⟨rfl, rfl, .start K⟩)
          · rintro i r ⟨b1, b2⟩ s' ⟨rfl, rfl, L⟩
            have hi := L.lt i List.mem_cons_self
            have he : es[i]? = some es[i] := Array.getElem?_eq_getElem hi
            obtain ⟨k', h1, h2, h3, h4⟩ := K.at_ i _ he
            simp only [he]
            by_cases hh : (es[i].hash == k.hash w) = true
            · rw [if_pos hh]
              refine wpAny_bind (wpAny_dictEpoch ho hd (wpAny_bind (look i _ k' he h1 h2 h4 _ (wpAny_bind (wpAny_dictEpoch ho hd ?_)))))
              rw [if_neg (by simp)]
              by_cases hkk : k' = k
              · subst hkk
                cases (show b2 = none from L.no K h1)
                simp only [decide_eq_true, if_true, Option.isSome_none, Bool.false_eq_true, if_false]
                refine wpAny_bind (wpAny_rule ?_)
                split
                · exact wpAny_pure (wpAny_pure (F.2 i h1))
                · exact wpAny_pure ⟨rfl, rfl, L.took K h1⟩
              · simp only [decide_eq_false hkk, Bool.false_and, Bool.false_eq_true, if_false]
                refine wpAny_bind (wpAny_rule (wpAny_pure ⟨rfl, rfl, L.next fun q => hkk ?_⟩))
                rw [h1] at q
                exact Option.some.inj q
            · rw [if_neg hh]
              refine wpAny_pure ⟨rfl, rfl, L.next fun q => hh ?_⟩
              rw [h1] at q
              cases q
              rw [h4, beq_self_eq_true]
          · rintro ⟨b1, b2⟩ s' ⟨rfl, rfl, L⟩
            exact wpAny_pure (L.told F)
        · rw [if_neg hs1]
          refine wpAny_bind (nd_quiet ⟨hk, hd8⟩ hq ?_)
          rw [if_neg (by simp)]
          refine wpAny_bind (wpAny_forIn_list _ (fun r b s' => s' = s ∧ b.1 = none ∧ Left es ks k r b.2) _ ?_ ?_ _ _ ⟨rfl, rfl, .start K⟩)
          · rintro i r ⟨b1, b2⟩ s' ⟨rfl, rfl, L⟩
            have hi := L.lt i List.mem_cons_self
            have he : es[i]? = some es[i] := Array.getElem?_eq_getElem hi
            obtain ⟨k', h1, h2, h3, h4⟩ := K.at_ i _ he
            simp only [he]
            by_cases hh : (es[i].hash == k.hash w) = true
            · rw [if_pos hh]
              refine wpAny_bind (wpAny_dictEpoch ho hd (wpAny_bind (look i _ k' he h1 h2 h4 _ (wpAny_bind (wpAny_dictEpoch ho hd ?_)))))
              rw [if_neg (by simp)]
              by_cases hkk : k' = k
              · subst hkk
                cases (show b2 = none from L.no K h1)
                simp only [decide_eq_true, if_true, Option.isSome_none, Bool.false_eq_true, if_false]
                refine wpAny_bind (wpAny_rule ?_)
                split
                · exact wpAny_pure (wpAny_pure (F.2 i h1))
                · exact wpAny_pure ⟨rfl, rfl, L.took K h1⟩
              · simp only [decide_eq_false hkk, Bool.false_and, Bool.false_eq_true, if_false]
                refine wpAny_bind (wpAny_rule (wpAny_pure ⟨rfl, rfl, L.next fun q => hkk ?_⟩))
                rw [h1] at q
                exact Option.some.inj q
            · rw [if_neg hh]
              refine wpAny_pure ⟨rfl, rfl, L.next fun q => hh ?_⟩
              rw [h1] at q
              cases q
              rw [h4, beq_self_eq_true]
          · rintro ⟨b1, b2⟩ s' ⟨rfl, rfl, L⟩
            exact wpAny_pure (L.told F)
end
end Dl

namespace Dl
open PySem L2 PyProof.Rows PySem.Spec

/-! ## dicts of any keys: reading, writing -/
structure Rw (w : World) (h : Heap) (d : Addr) (es : Array DictEntry) (ep : Nat) (ks : List NestedKey) : Prop where
  ob : DictObj d es ep h
  keys : KsAt w h es ks
section
variable {prog : Program} {w : World} {A : Around} {E : Value → Shared → Prop} {s : Shared} {d : Addr} {es : Array DictEntry} {ep : Nat} {ks : List NestedKey} {k : NestedKey} {v : Value}
theorem Rw.ty (R : Rw w s.heap d es ep ks) : s.TypeIs (.ref d) "dict" := by
  obtain ⟨o, h1, h2, _⟩ := R.ob
  exact ⟨o, h1, h2.1⟩
theorem Rw.noDict (R : Rw w s.heap d es ep ks) : ∀ b, Value.ref d = .ref b → ∃ ob, s.heap.get? b = some ob ∧ ob.dict = none := fun b q => by
  cases q
  obtain ⟨o, h1, h2, _⟩ := R.ob
  exact ⟨o, h1, h2.2.1⟩
/-- a key that is asked for -/
structure Kv (s : Shared) (k : NestedKey) (v : Value) : Prop where
  is : NestedIs s.heap k v
  le : k.depth ≤ 8
theorem nd_get {Q : Option Value → Shared → Prop} (hu : A.units + 8 < cLine) (R : Rw w s.heap d es ep ks) (kv : Kv s k v) (no : k ∉ ks → Q none { s with toks := s.toks + k.draws })
    (yes : ∀ (j : Nat) (e : DictEntry), ks[j]? = some k → es[j]? = some e → Q (some e.val) { s with toks := s.toks + k.draws }) : wpAny (model prog w) A (dictGet d v) Q E s := by
  obtain ⟨o, h1, h2, h3⟩ := R.ob
  unfold dictGet
  first | with_reducible refine wpAny_holding ?_ | skip
  refine wpAny_bind (pyHash_key k v A s _ kv.is (by have := kv.le; omega) (wpAny_bind (nd_find (s := { s with toks := s.toks + k.draws }) hu kv.is kv.le h1 h3 R.keys ⟨fun hn => ?_, fun j hj => ?_⟩)))
  · exact wpAny_pure (no hn)
  · obtain ⟨e, he, _⟩ := R.keys.here hj
    refine wpAny_bind (wpAny_dictEntries (s := { s with toks := s.toks + k.draws }) h1 h3 ?_)
    rw [he]
    exact wpAny_pure (yes j e hj he)
theorem dictObj_mod {h : Heap} {o : Obj} (h1 : h.get? d = some o) (h2 : o.ExactDict) (h3 : o.data = .dict es ep) (f : Array DictEntry → Array DictEntry) : DictObj d (f es) ep (h.update d (Obj.mapDict f)) :=
  ⟨_, Heap.get?_update_self _ h1 (Obj.isFreed_of_dict (Obj.data_mapDict h3 _)), h2.mapDict _, Obj.data_mapDict h3 _⟩
theorem dictObj_key {h : Heap} {o : Obj} (h1 : h.get? d = some o) (h2 : o.ExactDict) (h3 : o.data = .dict es ep) (f : Array DictEntry → Array DictEntry) : DictObj d (f es) (ep + 1) (h.update d (Obj.mapDictKeys f)) :=
  ⟨_, Heap.get?_update_self _ h1 (Obj.isFreed_of_dict (Obj.data_mapDictKeys h3 _)), h2.mapDictKeys _, Obj.data_mapDictKeys h3 _⟩
/-- the entries with x at k -/
def putE (es : Array DictEntry) (hs : Int) (v x : Value) : Option Nat → Array DictEntry
  | some j => es.modify j fun e => { e with val := x }
  | none => es.push ⟨hs, v, x⟩
theorem nd_set {x : Value} {Q : Unit → Shared → Prop} (hu : A.units + 8 < cLine) (R : Rw w s.heap d es ep ks) (kv : Kv s k v) (hz : es.size ≤ sizeLine)
    (no : k ∉ ks → ∀ h' t, DictObj d (putE es (k.hash w) v x none) (ep + 1) h' → Heap.SameBut d s.heap h' → Q () { s with heap := h', toks := t })
    (yes : ∀ j, ks[j]? = some k → ∀ h' t, DictObj d (putE es (k.hash w) v x (some j)) ep h' → Heap.SameBut d s.heap h' → Q () { s with heap := h', toks := t }) : wpAny (model prog w) A (dictSet d v x) Q E s := by
  obtain ⟨o, h1, h2, h3⟩ := R.ob
  unfold dictSet
  first | with_reducible refine wpAny_holding ?_ | skip
  refine wpAny_bind (pyHash_key k v A s _ kv.is (by have := kv.le; omega) ?_)
  unfold dictSetHashed
  first | with_reducible refine wpAny_holding ?_ | skip
  refine wpAny_bind (nd_find (s := { s with toks := s.toks + k.draws }) hu kv.is kv.le h1 h3 R.keys ⟨fun hn => ?_, fun j hj => ?_⟩)
  · exact wpAny_bind (wpAny_rule (wpAny_updateDictKeys (hz := hz) (s := { s with toks := s.toks + k.draws }) h1 h3 (no hn _ _ (dictObj_key h1 h2 h3 _) (Heap.SameBut.update ..))))
  · exact wpAny_bind (wpAny_rule (wpAny_bind (wpAny_updateDict (s := { s with toks := s.toks + k.draws }) h1 h3 (wpAny_point (yes j hj _ _ (dictObj_mod h1 h2 h3 _) (Heap.SameBut.update ..))))))
theorem nd_setdefault {x : Value} {Q : Value → Shared → Prop} (hu : A.units + 8 < cLine) (R : Rw w s.heap d es ep ks) (kv : Kv s k v) (hz : es.size ≤ sizeLine)
    (no : k ∉ ks → ∀ h' t, DictObj d (putE es (k.hash w) v x none) (ep + 1) h' → Heap.SameBut d s.heap h' → Q x { s with heap := h', toks := t })
    (yes : ∀ (j : Nat) (e : DictEntry), ks[j]? = some k → es[j]? = some e → ∀ t, Q e.val { s with toks := t }) : wpAny (model prog w) A (dictSetDefault d v x) Q E s := by
  obtain ⟨o, h1, h2, h3⟩ := R.ob
  unfold dictSetDefault
  first | with_reducible refine wpAny_holding ?_ | skip
  refine wpAny_bind (pyHash_key k v A s _ kv.is (by have := kv.le; omega) ?_)
  refine wpAny_bind (nd_find (s := { s with toks := s.toks + k.draws }) hu kv.is kv.le h1 h3 R.keys ⟨fun hn => ?_, fun j hj => ?_⟩)
  · exact wpAny_bind (wpAny_rule (wpAny_bind (wpAny_updateDictKeys (hz := hz) (s := { s with toks := s.toks + k.draws }) h1 h3 (wpAny_pure (no hn _ _ (dictObj_key h1 h2 h3 _) (Heap.SameBut.update ..))))))
  · obtain ⟨e, he, _⟩ := R.keys.here hj
    refine wpAny_bind (wpAny_dictEntries (s := { s with toks := s.toks + k.draws }) h1 h3 ?_)
    rw [he]
    exact wpAny_bind (wpAny_rule (wpAny_pure (yes j e hj he _)))
theorem nd_contains {Q : Bool → Shared → Prop} (hu : A.units + 20 < cLine) (hd : (d == sysModules) = false) (R : Rw w s.heap d es ep ks) (kv : Kv s k v) (no : k ∉ ks → Q false { s with toks := s.toks + k.draws })
    (yes : k ∈ ks → Q true { s with toks := s.toks + k.draws }) : wpAny (model prog w) A (contains (.ref d) v) Q E s := by
  refine wpAny_contains_slot R.ty F.slot_dict_contains ?_
  refine call_meetsIn F.slot_dict_contains R.ty F.entry_dict_contains (F.args_dict_contains_2 _ _) (S := fun A' q s' => A' = A ∧ s' = s ∧ (k ∉ ks → q (.ok (.ret (.bool false))) { s with toks := s.toks + k.draws }) ∧ (k ∈ ks → q (.ok (.ret (.bool true))) { s with toks := s.toks + k.draws }))
    (fun A' q s' hS => ?_) ⟨rfl, rfl, fun h => wpAny_truthy_bool (no h), fun h => wpAny_truthy_bool (yes h)⟩
  obtain ⟨rfl, rfl, q1, q2⟩ := hS
  show wpAny _ _ (dictGet d v >>= _) _ _ _
  refine wpAny_bind (nd_get (by show A'.units + 1 + 8 < cLine; omega) R kv (fun hn => ?_) fun j e hj he => ?_)
  · show wpAny _ _ (Builtin.Dict.pendingKey? d v >>= _) _ _ _
    exact wpAny_bind (wpAny_pendingKey_other hd (wpAny_pure (q1 hn)))
  · show wpAny _ _ (ret (.bool true)) _ _ _
    exact wpAny_pure (q2 (List.mem_of_getElem? hj))
theorem nd_item {Q : Value → Shared → Prop} (hu : A.units + 20 < cLine) (R : Rw w s.heap d es ep ks) (kv : Kv s k v) (hk : k ∈ ks)
    (yes : ∀ (j : Nat) (e : DictEntry), ks[j]? = some k → es[j]? = some e → Q e.val { s with toks := s.toks + k.draws }) : wpAny (model prog w) A (getItem (.ref d) v) Q E s := by
  unfold getItem
  first | with_reducible refine wpAny_holding ?_ | skip
  refine wpAny_bind (wpAny_sequenceKey R.ty (by decide) ?_)
  refine wpAny_bind (wpAny_callSpecial?_slot (name := Str.ofString "__getitem__") R.ty slot_dict_getitem (wpAny_call_entry slot_dict_getitem R.ty entry_dict_getitem ?_ (args_dict_getitem _ _)))
  show wpAny _ _ (dictGet d v >>= _) _ _ s
  refine wpAny_bind (nd_get (by show A.units + 1 + 8 < cLine; omega) R kv (fun hn => absurd hk hn) fun j e hj he => ?_)
  exact wpAny_pure ⟨e.val, rfl, wpAny_pure (yes j e hj he)⟩
theorem nd_setItem {x : Value} {Q : Unit → Shared → Prop} (hu : A.units + 20 < cLine) (R : Rw w s.heap d es ep ks) (kv : Kv s k v) (hz : es.size ≤ sizeLine)
    (no : k ∉ ks → ∀ h' t, DictObj d (putE es (k.hash w) v x none) (ep + 1) h' → Heap.SameBut d s.heap h' → Q () { s with heap := h', toks := t })
    (yes : ∀ j, ks[j]? = some k → ∀ h' t, DictObj d (putE es (k.hash w) v x (some j)) ep h' → Heap.SameBut d s.heap h' → Q () { s with heap := h', toks := t }) : wpAny (model prog w) A (setItem (.ref d) v x) Q E s := by
  unfold setItem
  first | with_reducible refine wpAny_holding ?_ | skip
  refine wpAny_bind (wpAny_sequenceKey R.ty (by decide) ?_)
  refine wpAny_bind (wpAny_callSpecial?_slot (name := Str.ofString "__setitem__") R.ty slot_dict_setitem (wpAny_call_entry slot_dict_setitem R.ty entry_dict_setitem ?_ (args_dict_setitem _ _ _)))
  show wpAny _ _ (Builtin.Dict.notOrdered "__setitem__" ⟨[.ref d, v, x], []⟩ >>= _) _ _ s
  refine wpAny_bind (wpAny_notOrdered_dict R.ty ?_)
  show wpAny _ _ (dictSet d v x >>= _) _ _ s
  exact wpAny_bind (nd_set (by show A.units + 1 + 8 < cLine; omega) R kv hz (fun hn h' t g1 g2 => wpAny_pure ⟨.none, rfl, wpAny_pure (no hn h' t g1 g2)⟩) fun j hj h' t g1 g2 => wpAny_pure ⟨.none, rfl, wpAny_pure (yes j hj h' t g1 g2)⟩)
theorem nd_call_get {more : List Value} {Q : Value → Shared → Prop} (dv : Value) (hm : more = [] ∧ dv = .none ∨ more = [dv]) (hu : A.units + 20 < cLine) (hd : (d == sysModules) = false) (R : Rw w s.heap d es ep ks) (kv : Kv s k v)
    (no : k ∉ ks → Q dv { s with toks := s.toks + k.draws }) (yes : ∀ (j : Nat) (e : DictEntry), ks[j]? = some k → es[j]? = some e → Q e.val { s with toks := s.toks + k.draws }) : wpAny (model prog w) A (call (.builtin "dict.get") (.ref d :: v :: more)) Q E s := by
  have hargs : argsOk "dict.get" ⟨.ref d :: v :: more, []⟩ := by
    rcases hm with ⟨rfl, _⟩ | rfl
    · exact F.args_dict_get_2 _ _
    · exact F.args_dict_get_3 _ _ _
  refine call_meetsIn F.slot_dict_get R.ty F.entry_dict_get hargs (S := fun A' q s' => A' = A ∧ s' = s ∧ (k ∉ ks → q (.ok (.ret dv)) { s with toks := s.toks + k.draws }) ∧ (∀ (j : Nat) (e : DictEntry), ks[j]? = some k → es[j]? = some e → q (.ok (.ret e.val)) { s with toks := s.toks + k.draws }))
    (fun A' q s' hS => ?_) ⟨rfl, rfl, fun h => no h, fun j e h1 h2 => yes j e h1 h2⟩
  obtain ⟨rfl, rfl, q1, q2⟩ := hS
  rcases hm with ⟨rfl, rfl⟩ | rfl
  all_goals
    show wpAny _ _ (dictGet d v >>= _) _ _ _
    refine wpAny_bind (nd_get (by show A'.units + 1 + 8 < cLine; omega) R kv (fun hn => ?_) fun j e hj he => ?_)
    · show wpAny _ _ (Builtin.Dict.missed d v >>= _) _ _ _
      exact wpAny_bind (wpAny_missed_other hd (wpAny_pure (q1 hn)))
    · exact wpAny_pure (q2 j e hj he)
end
end Dl

namespace Dl
open PySem L2 PyProof.Rows PySem.Spec

/-! ## dicts of any keys, in the store -/
/-- a key that may be asked for -/
def keyD (d : D) : Option NestedKey := match keyOf d with
  | some k => if k.depth ≤ 8 then some k else none
  | none => none
theorem keyD_of {d : D} {k : NestedKey} (h : keyD d = some k) : keyOf d = some k ∧ k.depth ≤ 8 := by
  unfold keyD at h
  cases e : keyOf d with
  | none =>
    rw [e] at h
    cases h
  | some k' =>
    rw [e] at h
    simp only at h
    split at h
    · cases h
      exact ⟨rfl, by assumption⟩
    · cases h
def lkD (kvs : List (D × D)) (k : NestedKey) : Option D := (kvs.find? fun p => decide (keyOf p.1 = some k)).map (·.2)
/-- a new key changes the dict's count -/
def epD (ep : Nat) (kvs : List (D × D)) (k : NestedKey) : Nat := if (lkD kvs k).isSome then ep else ep + 1
def putD (kvs : List (D × D)) (k : NestedKey) (d v : D) : List (D × D) := if (lkD kvs k).isSome then kvs.map fun p => if keyOf p.1 = some k then (p.1, v) else p else kvs ++ [(d, v)]

theorem paired_get {α β : Type} {F : α → β → Prop} {l1 : List α} {l2 : List β} {j : Nat} {x : α} (h : Paired F l1 l2) (e : l1[j]? = some x) : ∃ y, l2[j]? = some y ∧ F x y := by
  induction h generalizing j with
  | nil => simp at e
  | cons r t ih =>
    cases j with
    | zero =>
      simp only [List.getElem?_cons_zero, Option.some.injEq] at e
      subst e
      exact ⟨_, rfl, r⟩
    | succ j => exact ih e
theorem paired_get2 {α β : Type} {F : α → β → Prop} {l1 : List α} {l2 : List β} {j : Nat} {y : β} (h : Paired F l1 l2) (e : l2[j]? = some y) : ∃ x, l1[j]? = some x ∧ F x y := by
  induction h generalizing j with
  | nil => simp at e
  | cons r t ih =>
    cases j with
    | zero =>
      simp only [List.getElem?_cons_zero, Option.some.injEq] at e
      subst e
      exact ⟨_, rfl, r⟩
    | succ j => exact ih e
theorem paired_of {α β : Type} {F : α → β → Prop} : ∀ {l1 : List α} {l2 : List β}, l1.length = l2.length → (∀ (j : Nat) (x : α) (y : β), l1[j]? = some x → l2[j]? = some y → F x y) → Paired F l1 l2
  | [], [], _, _ => .nil
  | [], _ :: _, h, _ => by simp at h
  | _ :: _, [], h, _ => by simp at h
  | a :: l1, b :: l2, h, f => .cons (f 0 a b rfl rfl) (paired_of (by simpa using h) fun j x y h1 h2 => f (j + 1) x y h1 h2)
theorem paired_snoc {α β : Type} {F : α → β → Prop} {x : α} {y : β} : ∀ {l1 : List α} {l2 : List β}, Paired F l1 l2 → F x y → Paired F (l1 ++ [x]) (l2 ++ [y])
  | _, _, .nil, h => .cons h .nil
  | _, _, .cons r t, h => .cons r (paired_snoc t h)

section
variable {w : World} {K : PySem.W.Frag} {ρ : List Addr} {H : Hp}
theorem ent_keys : ∀ {kvs : List (D × D)} {es : List DictEntry}, Paired (EntR w K ρ H) kvs es → ∃ ks : List NestedKey, kvs.map (fun p => keyOf p.1) = ks.map some
  | _, _, .nil => ⟨[], rfl⟩
  | _, _, .cons r t => by
    obtain ⟨ks, h⟩ := ent_keys t
    obtain ⟨k, kv, dv, h1, _⟩ := r
    exact ⟨k :: ks, by simp [h1, h]⟩
theorem lk_none {kvs : List (D × D)} {ks : List NestedKey} {k : NestedKey} (e : kvs.map (fun p => keyOf p.1) = ks.map some) (h : k ∉ ks) : lkD kvs k = none := by
  unfold lkD
  rw [Option.map_eq_none_iff, List.find?_eq_none]
  intro p hp hk
  have h1 : keyOf p.1 = some k := of_decide_eq_true hk
  have h2 : some k ∈ kvs.map (fun p => keyOf p.1) := h1 ▸ List.mem_map_of_mem hp
  rw [e] at h2
  obtain ⟨k', h3, h4⟩ := List.mem_map.mp h2
  cases h4
  exact h h3
theorem keys_at {kvs : List (D × D)} {ks : List NestedKey} {j : Nat} {p : D × D} (e : kvs.map (fun p => keyOf p.1) = ks.map some) (h : kvs[j]? = some p) : ∃ k, keyOf p.1 = some k ∧ ks[j]? = some k := by
  have h1 : (kvs.map (fun p => keyOf p.1))[j]? = some (keyOf p.1) := by rw [List.getElem?_map, h]; rfl
  rw [e, List.getElem?_map] at h1
  cases q : ks[j]? with
  | none =>
    rw [q] at h1
    cases h1
  | some k =>
    rw [q] at h1
    exact ⟨k, by simpa using h1.symm, rfl⟩
theorem lk_some {kvs : List (D × D)} {ks : List NestedKey} {j : Nat} {k : NestedKey} (e : kvs.map (fun p => keyOf p.1) = ks.map some) (nd : ks.Nodup) (h : ks[j]? = some k) : ∃ p, kvs[j]? = some p ∧ keyOf p.1 = some k ∧ lkD kvs k = some p.2 := by
  have hl : kvs.length = ks.length := by simpa using congrArg List.length e
  have hj : j < kvs.length := by
    rw [hl]
    exact (List.getElem?_eq_some_iff.mp h).1
  have h1 : kvs[j]? = some kvs[j] := List.getElem?_eq_getElem hj
  obtain ⟨k', h2, h3⟩ := keys_at e h1
  rw [h] at h3
  cases h3
  refine ⟨_, h1, h2, ?_⟩
  unfold lkD
  cases q : kvs.find? (fun p => decide (keyOf p.1 = some k)) with
  | none =>
    have := List.find?_eq_none.mp q _ (List.mem_of_getElem? h1)
    simp [h2] at this
  | some p =>
    have q1 : keyOf p.1 = some k := by simpa using List.find?_some q
    obtain ⟨i, hi⟩ := List.mem_iff_getElem?.mp (List.mem_of_find?_eq_some q)
    obtain ⟨k2, h4, h5⟩ := keys_at e hi
    rw [q1] at h4
    cases h4
    have : i = j := (List.getElem?_inj (List.getElem?_eq_some_iff.mp h5).1 nd).mp (h5.trans h.symm)
    subst this
    rw [h1] at hi
    cases hi
    rfl
theorem nodup_some {ks : List NestedKey} (h : (ks.map some).Nodup) : ks.Nodup := by
  have h' : List.Pairwise (fun a b => a ≠ b) (ks.map some) := h
  rw [List.pairwise_map] at h'
  exact List.Pairwise.imp (fun q e => q (by rw [e])) h'
theorem some_nodup {ks : List NestedKey} (h : ks.Nodup) : (ks.map some).Nodup := by
  show List.Pairwise (fun a b => a ≠ b) (ks.map some)
  rw [List.pairwise_map]
  exact List.Pairwise.imp (fun q e => q (Option.some.inj e)) h
end

section
variable {X : Cx} {pins : List (Addr × Obj)} {σ : L2.St} {H : Hp} {s : Shared} {ρ : List Addr} {S : Sto} {l : Nat} {a : Addr} {kvs : List (D × D)} {es : Array DictEntry} {ep : Nat} {ks : List NestedKey} {k : NestedKey}
/-- a dict of the store, as the machine has it -/
structure Dat (X : Cx) (ρ : List Addr) (H : Hp) (s : Shared) (a : Addr) (ep : Nat) (kvs : List (D × D)) (es : Array DictEntry) (ks : List NestedKey) : Prop where
  sys : (a == sysModules) = false
  le : kvs.length ≤ sizeLine
  ext : H a = some (.ext (DictObj a es ep))
  rw : Rw X.w s.heap a es ep ks
  keys : kvs.map (fun p => keyOf p.1) = ks.map some
  pr : Paired (EntR X.w X.K ρ H) kvs es.toList
theorem dat_of (I : L2.Inv X pins σ H s) (h : OR X.w X.K X.mg ρ H a (.dct ep kvs)) : ∃ es ks, Dat X ρ H s a ep kvs es ks := by
  obtain ⟨h1, h2, h3, es, h4, h5⟩ := h
  obtain ⟨ks, h6⟩ := ent_keys h5
  have nd : ks.Nodup := nodup_some (by rw [← h6]; exact h3)
  obtain ⟨h7, _, _⟩ := I.hok a _ h4
  have hl : kvs.length = ks.length := by simpa using congrArg List.length h6
  refine ⟨es, ks, h1, h2, h4, ⟨h7, ⟨?_, fun j e he => ?_, nd⟩⟩, h6, h5⟩
  · rw [← hl, Paired.length h5, Array.length_toList]
  · rw [← Array.getElem?_toList] at he
    obtain ⟨p, hp, k, kv, dv, g1, g2, g3, g4, g5, _⟩ := paired_get2 h5 he
    obtain ⟨k', g6, g7⟩ := keys_at h6 hp
    rw [g1] at g6
    cases g6
    exact ⟨k, g7, nested_of I _ _ _ _ g1 g4 g5, g2, g3⟩
theorem Dat.size (D : Dat X ρ H s a ep kvs es ks) : es.size = kvs.length := by rw [Paired.length D.pr, Array.length_toList]
theorem Dat.get (D : Dat X ρ H s a ep kvs es ks) {j : Nat} {e : DictEntry} (h1 : ks[j]? = some k) (h2 : es[j]? = some e) : ∃ v dv, lkD kvs k = some v ∧ VR X.K ρ H v dv ∧ RelV dv e.val := by
  obtain ⟨p, h3, h4, h5⟩ := lk_some D.keys D.rw.keys.nd h1
  obtain ⟨e', h6, k', kv, dv, g1, g2, g3, g4, g5, g6, g7⟩ := paired_get D.pr h3
  rw [Array.getElem?_toList, h2] at h6
  cases h6
  exact ⟨_, dv, h5, g6, g7⟩
theorem dictObj_st {a : Addr} {es : Array DictEntry} {ep : Nat} : ∀ h1 h2 : Heap, DictObj a es ep h1 → (∀ o, h1.get? a = some o → h2.get? a = some o) → DictObj a es ep h2 := fun _ _ ⟨o, e, r⟩ k => ⟨o, k o e, r⟩
theorem ext_ok {P : Program} {w : World} {H : Hp} {h : Heap} {a : Addr} {es : Array DictEntry} {ep : Nat} (x : DictObj a es ep h) : ObjOk P w H h a (.ext (DictObj a es ep)) := ⟨x, let ⟨o, e, _⟩ := x; ⟨o, e⟩, dictObj_st⟩
/-- a dict's object is another one -/
theorem Dat.write (I : L2.Inv X pins σ H s) (D : Dat X ρ H s a ep kvs es ks) {es' : Array DictEntry} {ep' : Nat} {h' : Heap} {t : Nat} (x : DictObj a es' ep' h') (b : Heap.SameBut a s.heap h') : L2.Inv X pins σ (upd H a (.ext (DictObj a es' ep'))) { s with heap := h', toks := t } :=
  d_write I (by rw [D.ext]; exact True.intro) b (let ⟨o, e, _⟩ := x; ⟨o, e⟩) (ext_ok x)
theorem vx_dict {u : HO} (h : H a = some (.ext (DictObj a es ep))) : VX ρ H ρ (upd H a u) := vx_upd h (fun vs q => by cases q) fun x y q => by cases q
theorem modify_pr {kvs : List (D × D)} {F : D × D → DictEntry → Prop} {x : Value} {v : D} {j : Nat} (pr : Paired F kvs es.toList) (keys : kvs.map (fun p => keyOf p.1) = ks.map some) (nd : ks.Nodup) (hj : ks[j]? = some k)
    (G : D × D → DictEntry → Prop) (h1 : ∀ p e, F p e → G p e) (h2 : ∀ p e, F p e → G (p.1, v) { e with val := x }) :
    Paired G (kvs.map fun p => if keyOf p.1 = some k then (p.1, v) else p) (es.modify j fun e => { e with val := x }).toList := by
  refine paired_of ?_ fun i p e hp he => ?_
  · have := Paired.length pr
    simpa using this
  · rw [List.getElem?_map] at hp
    cases q : kvs[i]? with
    | none =>
      rw [q] at hp
      cases hp
    | some p0 =>
      rw [q] at hp
      obtain ⟨e0, q1, q2⟩ := paired_get pr q
      obtain ⟨k0, q3, q4⟩ := keys_at keys q
      rw [Array.getElem?_toList] at q1 he
      have hi : i < es.size := (Array.getElem?_eq_some_iff.mp q1).1
      rw [Array.getElem?_eq_getElem (by simpa using hi), Array.getElem_modify] at he
      have e0' : es[i] = e0 := by
        rw [Array.getElem?_eq_getElem hi] at q1
        exact Option.some.inj q1
      by_cases hij : j = i
      · subst hij
        rw [hj] at q4
        cases q4
        rw [if_pos rfl] at he
        simp only [Option.map_some, q3, if_true, Option.some.injEq] at hp
        subst hp
        cases he
        rw [e0']
        exact h2 _ _ q2
      · have hk : ¬ keyOf p0.1 = some k := fun z => by
          rw [q3] at z
          cases z
          exact hij ((List.getElem?_inj (List.getElem?_eq_some_iff.mp hj).1 nd).mp (hj.trans q4.symm))
        rw [if_neg hij] at he
        simp only [Option.map_some, if_neg hk, Option.some.injEq] at hp
        subst hp
        cases he
        rw [e0']
        exact h1 _ _ q2
theorem Dat.put_none (T : Dat X ρ H s a ep kvs es ks) {d v : D} {kv dv : V} {u x : Value} (hk : keyD d = some k) (r1 : VR X.K ρ H d kv) (q1 : RelV kv u) (r2 : VR X.K ρ H v dv) (q2 : RelV dv x) (hz : kvs.length < sizeLine) (hn : k ∉ ks) :
    OR X.w X.K X.mg ρ (upd H a (.ext (DictObj a (putE es (k.hash X.w) u x none) (ep + 1)))) a (.dct (epD ep kvs k) (putD kvs k d v)) := by
  have e1 := lk_none T.keys hn
  have vx : VX ρ H ρ (upd H a (.ext (DictObj a (putE es (k.hash X.w) u x none) (ep + 1)))) := vx_dict T.ext
  have e2 : putD kvs k d v = kvs ++ [(d, v)] := by simp [putD, e1]
  obtain ⟨hk1, hk2⟩ := keyD_of hk
  have e5 : epD ep kvs k = ep + 1 := by simp [epD, e1]
  rw [e5]
  refine ⟨T.sys, by rw [e2]; simp; omega, ?_, _, upd_same, ?_⟩
  · rw [e2, List.map_append, List.map_cons, List.map_nil, hk1, T.keys]
    have : (ks.map some ++ [some k]) = (ks ++ [k]).map some := by simp
    rw [this]
    refine some_nodup ?_
    rw [List.nodup_append]
    refine ⟨T.rw.keys.nd, by simp, fun y hy z hz e => ?_⟩
    simp only [List.mem_singleton] at hz
    subst hz e
    exact hn hy
  · rw [e2]
    have e3 : (putE es (k.hash X.w) u x none).toList = es.toList ++ [⟨k.hash X.w, u, x⟩] := by simp [putE]
    rw [e3]
    exact paired_snoc (Paired.mapP T.pr fun p e z => z.vx vx) ⟨k, kv, dv, hk1, hk2, rfl, VR.vx vx _ _ r1, q1, VR.vx vx _ _ r2, q2⟩
theorem Dat.put_some (T : Dat X ρ H s a ep kvs es ks) {d v : D} {dv : V} {u x : Value} {j : Nat} (r2 : VR X.K ρ H v dv) (q2 : RelV dv x) (hj : ks[j]? = some k) :
    OR X.w X.K X.mg ρ (upd H a (.ext (DictObj a (putE es (k.hash X.w) u x (some j)) ep))) a (.dct (epD ep kvs k) (putD kvs k d v)) := by
  obtain ⟨p, _, _, e1⟩ := lk_some T.keys T.rw.keys.nd hj
  have vx : VX ρ H ρ (upd H a (.ext (DictObj a (putE es (k.hash X.w) u x (some j)) ep))) := vx_dict T.ext
  have e2 : putD kvs k d v = kvs.map fun p => if keyOf p.1 = some k then (p.1, v) else p := by simp [putD, e1]
  have e4 : (putD kvs k d v).map (fun p => keyOf p.1) = kvs.map (fun p => keyOf p.1) := by
    rw [e2, List.map_map]
    refine List.map_congr_left fun p _ => ?_
    simp only [Function.comp]
    split <;> rfl
  have e5 : epD ep kvs k = ep := by simp [epD, e1]
  rw [e5]
  refine ⟨T.sys, by rw [e2, List.length_map]; exact T.le, by rw [e4, T.keys]; exact some_nodup T.rw.keys.nd, _, upd_same, ?_⟩
  rw [e2]
  exact modify_pr T.pr T.keys T.rw.keys.nd hj _ (fun p e z => z.vx vx) fun p e z => by
    obtain ⟨k', kv, dv', g1, g2, g3, g4, g5, _⟩ := z
    exact ⟨k', kv, dv, g1, g2, g3, VR.vx vx _ _ g4, g5, VR.vx vx _ _ r2, q2⟩
end

/-! ### the operations -/
def dIxD : DOp := fun d1 d2 S R => ∃ l ep kvs k v, d1 = .loc l ∧ S[l]? = some (.dct ep kvs) ∧ keyD d2 = some k ∧ lkD kvs k = some v ∧ R v S
def dInD : DOp := fun d1 d2 S R => ∃ l ep kvs k, d2 = .loc l ∧ S[l]? = some (.dct ep kvs) ∧ keyD d1 = some k ∧ R (.bl (lkD kvs k).isSome) S
def dNotInD : DOp := fun d1 d2 S R => ∃ l ep kvs k, d2 = .loc l ∧ S[l]? = some (.dct ep kvs) ∧ keyD d1 = some k ∧ R (.bl (!(lkD kvs k).isSome)) S
def dSetDct : DSet := fun d1 d2 d3 S R => ∃ l ep kvs k, d1 = .loc l ∧ S[l]? = some (.dct ep kvs) ∧ keyD d2 = some k ∧ kvs.length < sizeLine ∧ R (S.set l (.dct (epD ep kvs k) (putD kvs k d2 d3)))
section
variable {X : Cx}
theorem od_ixD (hu : X.A.units + 150 < cLine) : IxR X (rD X dIxD) := by
  intro value slice pins s σ H x y v u Q I rx ry ⟨ρ, S, d1, d2, R, W, r1, r2, ⟨l, ep, kvs, k, v', e1, h1, hk, h2, q⟩, p⟩ hs
  subst e1
  obtain ⟨a, h3, rfl⟩ := r1.loc_of
  cases (show v = Value.ref a from rx)
  obtain ⟨es, ks, D⟩ := dat_of I (W.obj l a _ h3 h1)
  obtain ⟨hk1, hk2⟩ := keyD_of hk
  have kv : Kv s k u := ⟨nested_of I _ _ _ _ hk1 r2 ry, hk2⟩
  have hm : k ∈ ks := Classical.byContradiction fun hn => by
    rw [lk_none D.keys hn] at h2
    cases h2
  unfold subscriptTail
  refine wpAny_bind ?_
  rw [getitemInPython_of_ne (D.rw.ty).not_modules]
  refine wpAny_bind (wpAny_specialOf D.rw.ty slot_dict_getitem.lookup ?_)
  have fin : wpAny (model X.prog X.w) X.A (subscripted slice false (.ref a) u) (fun r s₃ => wpAny (model X.prog X.w) X.A (letTemporaryGo value (.ref a) r >>= fun _ => pure r) (EP X pins σ Q) X.xe s₃) X.xe s := by
    rw [hs]
    refine wpAny_operating (nd_item (by omega) D.rw kv hm fun j e g1 g2 => wpAny_bind (wpAny_letTemporaryGo (wpAny_pure ?_)))
    obtain ⟨v2, dv, g3, g4, g5⟩ := D.get g1 g2
    rw [h2] at g3
    cases g3
    exact ⟨dv, H, I.tok _, g5, p _ _ q ρ H _ (Ext.refl _ _) W g4⟩
  first
    | exact wpAny_pure (wpAny_bind fin)
    | exact wpAny_bind (wpAny_pure (wpAny_bind fin))
    | exact wpAny_bind fin
theorem od_inD (hu : X.A.units + 150 < cLine) : OpR X (compareOp .In) (rD X dInD) := by
  intro pins s σ H x y v u Q I rx ry ⟨ρ, S, d1, d2, R, W, r1, r2, ⟨l, ep, kvs, k, e2, h1, hk, q⟩, p⟩
  subst e2
  obtain ⟨a, h3, rfl⟩ := r2.loc_of
  cases (show u = Value.ref a from ry)
  obtain ⟨es, ks, D⟩ := dat_of I (W.obj l a _ h3 h1)
  obtain ⟨hk1, hk2⟩ := keyD_of hk
  have kv : Kv s k v := ⟨nested_of I _ _ _ _ hk1 r1 rx, hk2⟩
  show wpAny _ _ (do return Value.bool (← contains (.ref a) v)) _ _ s
  refine wpAny_bind (nd_contains (by omega) D.sys D.rw kv (fun hn => wpAny_pure ?_) fun hm => wpAny_pure ?_)
  · rw [lk_none D.keys hn] at q
    exact ⟨.bl false, H, I.tok _, rfl, p _ _ q ρ H _ (Ext.refl _ _) W .bl⟩
  · obtain ⟨j, hj⟩ := List.mem_iff_getElem?.mp hm
    obtain ⟨p0, _, _, e3⟩ := lk_some D.keys D.rw.keys.nd hj
    rw [e3] at q
    exact ⟨.bl true, H, I.tok _, rfl, p _ _ q ρ H _ (Ext.refl _ _) W .bl⟩
theorem od_notInD (hu : X.A.units + 150 < cLine) : OpR X (compareOp .NotIn) (rD X dNotInD) := by
  intro pins s σ H x y v u Q I rx ry ⟨ρ, S, d1, d2, R, W, r1, r2, ⟨l, ep, kvs, k, e2, h1, hk, q⟩, p⟩
  subst e2
  obtain ⟨a, h3, rfl⟩ := r2.loc_of
  cases (show u = Value.ref a from ry)
  obtain ⟨es, ks, D⟩ := dat_of I (W.obj l a _ h3 h1)
  obtain ⟨hk1, hk2⟩ := keyD_of hk
  have kv : Kv s k v := ⟨nested_of I _ _ _ _ hk1 r1 rx, hk2⟩
  show wpAny _ _ (do return Value.bool (!(← contains (.ref a) v))) _ _ s
  refine wpAny_bind (nd_contains (by omega) D.sys D.rw kv (fun hn => wpAny_pure ?_) fun hm => wpAny_pure ?_)
  · rw [lk_none D.keys hn] at q
    exact ⟨.bl true, H, I.tok _, rfl, p _ _ q ρ H _ (Ext.refl _ _) W .bl⟩
  · obtain ⟨j, hj⟩ := List.mem_iff_getElem?.mp hm
    obtain ⟨p0, _, _, e3⟩ := lk_some D.keys D.rw.keys.nd hj
    rw [e3] at q
    exact ⟨.bl false, H, I.tok _, rfl, p _ _ q ρ H _ (Ext.refl _ _) W .bl⟩
theorem sd_setDct (hu : X.A.units + 150 < cLine) : PSet X (rSetD X dSetDct) := by
  intro pins s σ H o i v ov iv u Q I ro ri rv ⟨ρ, S, d1, d2, d3, R, W, r1, r2, r3, ⟨l, ep, kvs, k, e1, h1, hk, hz, q⟩, p⟩
  subst e1
  obtain ⟨a, h3, rfl⟩ := r1.loc_of
  cases (show ov = Value.ref a from ro)
  obtain ⟨es, ks, D⟩ := dat_of I (W.obj l a _ h3 h1)
  obtain ⟨hk1, hk2⟩ := keyD_of hk
  have kv : Kv s k iv := ⟨nested_of I _ _ _ _ hk1 r2 ri, hk2⟩
  refine nd_setItem (by omega) D.rw kv (by rw [D.size]; exact D.le) (fun hn h' t g1 g2 => ?_) fun j hj h' t g1 g2 => ?_
  · exact ⟨_, D.write I g1 g2, p _ q ρ _ (ext_write (List.mem_of_getElem? h3)) (W.write h3 (D.put_none hk r2 ri r3 rv hz hn))⟩
  · exact ⟨_, D.write I g1 g2, p _ q ρ _ (ext_write (List.mem_of_getElem? h3)) (W.write h3 (D.put_some r3 rv hj))⟩
def dGetM : DMt := fun d ds S R => ∃ l ep kvs k x dv, d = .loc l ∧ ((ds = [x] ∧ dv = .non) ∨ ds = [x, dv]) ∧ S[l]? = some (.dct ep kvs) ∧ keyD x = some k ∧ R ((lkD kvs k).getD dv) S
theorem md_getM (hu : X.A.units + 150 < cLine) : MtR X "dict.get" (rMD X dGetM) := by
  intro pins s σ H x xs v us Q I rx rs ⟨ρ, S, d, ds, R, W, r1, r2, ⟨l, ep, kvs, k, x', dv, e1, e2, h1, hk, q⟩, p⟩
  subst e1
  obtain ⟨a, h3, rfl⟩ := r1.loc_of
  cases (show v = Value.ref a from rx)
  obtain ⟨es, ks, D⟩ := dat_of I (W.obj l a _ h3 h1)
  obtain ⟨hk1, hk2⟩ := keyD_of hk
  have main : ∀ (xv : V) (u : Value) (more : List Value) (dvv : V) (du : Value), (more = [] ∧ du = .none ∨ more = [du]) → VR X.K ρ H x' xv → RelV xv u → VR X.K ρ H dv dvv → RelV dvv du →
      wpAny (model X.prog X.w) X.A (call (.builtin "dict.get") (.ref a :: u :: more)) (EP X pins σ Q) X.xe s := by
    intro xv u more dvv du hm g1 g2 g3 g4
    have kv : Kv s k u := ⟨nested_of I _ _ _ _ hk1 g1 g2, hk2⟩
    refine nd_call_get du hm (by omega) D.sys D.rw kv (fun hn => ?_) fun j e g5 g6 => ?_
    · rw [lk_none D.keys hn] at q
      exact ⟨dvv, H, I.tok _, g4, p _ _ q ρ H _ (Ext.refl _ _) W g3⟩
    · obtain ⟨v2, dv2, g7, g8, g9⟩ := D.get g5 g6
      rw [g7] at q
      exact ⟨dv2, H, I.tok _, g9, p _ _ q ρ H _ (Ext.refl _ _) W g8⟩
  rcases e2 with ⟨rfl, rfl⟩ | rfl
  · obtain ⟨xv, rfl, g1⟩ := r2.one_of
    cases rs with
    | cons h t =>
      cases t
      exact main xv _ [] .non .none (.inl ⟨rfl, rfl⟩) g1 h .non rfl
  · obtain ⟨xv, dvv, rfl, g1, g2⟩ := r2.two_of
    cases rs with
    | cons h t =>
      cases t with
      | cons h2 t2 =>
        cases t2
        exact main xv _ _ dvv _ (.inr rfl) g1 h g2 h2
end
end Dl

namespace Dl
open PySem L2 PyProof.Rows PySem.Spec

/-! ## == of dicts whose values are keys, too -/
/-- each pair of the first is a pair of the second -/
def allK : List (D × D) → List (D × D) → Option Bool
  | [], _ => some true
  | (k, v) :: r, other => match keyOf k with
    | none => none
    | some kk => match lkD other kk with
      | none => some false
      | some y => match keyOf v, keyOf y with
        | some a, some b => if min a.depth b.depth ≤ 100 then (if NestedKey.beq a b = true then allK r other else some false) else none
        | _, _ => none
def eqK (k1 k2 : List (D × D)) : Option Bool := if k1.length = k2.length then allK k1 k2 else some false
section
variable {X : Cx} {pins : List (Addr × Obj)} {σ : L2.St} {H : Hp} {s : Shared} {ρ : List Addr} {S : Sto} {a b : Addr} {e1 e2 : Nat} {kv1 kv2 : List (D × D)} {es1 es2 : Array DictEntry} {ks1 ks2 : List NestedKey} {r : Bool} {A : Around} {E : Value → Shared → Prop}
theorem nd_same {nm : String} {Q : Bool → Shared → Prop} (hu : A.units + 130 < cLine) (I : L2.Inv X pins σ H s) (T1 : Dat X ρ H s a e1 kv1 es1 ks1) (T2 : Dat X ρ H s b e2 kv2 es2 ks2) (h : eqK kv1 kv2 = some r) (q : Q r s) :
    wpAny (model X.prog X.w) A (Builtin.Dict.samePairs nm a b) Q E s := by
  obtain ⟨o1, g1, _, g2⟩ := T1.rw.ob
  obtain ⟨o2, g3, _, g4⟩ := T2.rw.ob
  have z1 := T1.size
  have z2 := T2.size
  unfold Builtin.Dict.samePairs Builtin.Dict.showsAll
  rw [if_neg (by rw [T1.sys]; exact Bool.false_ne_true), if_neg (by rw [T2.sys]; exact Bool.false_ne_true)]
  refine wpAny_bind (wpAny_pure (wpAny_bind (wpAny_pure (wpAny_bind (wpAny_dictEntries g1 g2 ?_)))))
  dsimp only
  refine wpAny_bind (wpAny_dictEntries g3 g4 ?_)
  unfold eqK at h
  by_cases hz : kv1.length = kv2.length
  · rw [if_pos hz] at h
    rw [if_neg (by rw [z1, z2, hz]; simp)]
    refine wpAny_bind (wpAny_dictEpoch g1 g2 (wpAny_bind ?_))
    rw [Std.Legacy.Range.forIn_eq_forIn_range']
    simp only [Std.Legacy.Range.size, Nat.sub_zero, Nat.add_sub_cancel, Nat.div_one]
    refine wpAny_forIn_list _ (fun rest w s' => s' = s ∧ w = (none, ()) ∧ ∃ i, rest = List.range' i (es1.size - i) ∧ i ≤ es1.size ∧ allK (kv1.drop i) kv2 = some r) _ ?_ ?_ _ _ ⟨rfl, rfl, 0, by simp, Nat.zero_le _, h⟩
    · rintro x rest w s' ⟨rfl, rfl, i, hr, hi, hk⟩
      have hlt : i < es1.size := by
        rcases Nat.lt_or_ge i es1.size with c | c
        · exact c
        · rw [Nat.sub_eq_zero_of_le c] at hr
          cases hr
      have er : es1.size - i = (es1.size - (i + 1)) + 1 := by omega
      rw [er, List.range'_succ] at hr
      injection hr with hx hrest
      subst hx
      have hl1 : x < kv1.length := by omega
      obtain ⟨⟨k, v⟩, hp⟩ : ∃ p, kv1[x]? = some p := ⟨_, List.getElem?_eq_getElem hl1⟩
      have hdrop : kv1.drop x = (k, v) :: kv1.drop (x + 1) := by
        rw [List.drop_eq_getElem_cons hl1]
        have := List.getElem?_eq_getElem hl1
        rw [hp] at this
        rw [← Option.some.inj this]
      obtain ⟨en, hen, kk, kvv, dv, c1, c2, c3, c4, c5, c6, c7⟩ := paired_get T1.pr hp
      rw [Array.getElem?_toList] at hen
      rw [hdrop] at hk
      unfold allK at hk
      simp only [c1] at hk
      refine wpAny_bind (wpAny_dictEntries g1 g2 ?_)
      rw [hen]
      show wpAny _ _ (holding [en.key, en.val] _ >>= _) _ _ _
      have kn : NestedIs s'.heap kk en.key := nested_of I _ _ _ _ c1 c4 c5
      rw [c3]
      refine wpAny_bind (wpAny_holding (wpAny_bind (nd_find (by omega) kn c2 g3 g4 T2.rw.keys ⟨fun hn => ?_, fun j hj => ?_⟩)))
      · rw [lk_none T2.keys hn] at hk
        cases hk
        refine wpAny_pure ?_
        show wpAny _ _ (if (!false) = true then _ else _) _ _ _
        rw [if_pos (by decide)]
        exact wpAny_pure (wpAny_pure q)
      · obtain ⟨y, c8, c9, c10⟩ := lk_some T2.keys T2.rw.keys.nd hj
        rw [c10] at hk
        obtain ⟨e2', he2, k2, kv2', dv2, m1, m2, m3, m4, m5, m6, m7⟩ := paired_get T2.pr c8
        rw [Array.getElem?_toList] at he2
        cases ka : keyOf v with
        | none =>
          simp only [ka] at hk
          cases hk
        | some A1 =>
          cases kb : keyOf y.2 with
          | none =>
            simp only [ka, kb] at hk
            cases hk
          | some B1 =>
            simp only [ka, kb] at hk
            by_cases hd : min A1.depth B1.depth ≤ 100
            · rw [if_pos hd] at hk
              refine wpAny_bind (wpAny_dictEntries g3 g4 ?_)
              rw [he2]
              have n1 : NestedIs s'.heap A1 en.val := nested_of I _ _ _ _ ka c6 c7
              have n2 : NestedIs s'.heap B1 e2'.val := nested_of I _ _ _ _ kb m6 m7
              refine wpAny_holding (eqAt_key A1 B1 A s' _ _ n1 n2 (by omega) _ _ _ _ ?_)
              by_cases hb : NestedKey.beq A1 B1 = true
              · rw [if_pos hb] at hk
                rw [hb]
                show wpAny _ _ (if (!true) = true then _ else _) _ _ _
                rw [if_neg (by decide)]
                refine wpAny_bind (wpAny_dictEpoch g1 g2 ?_)
                rw [if_neg (by simp)]
                exact wpAny_pure ⟨rfl, rfl, x + 1, hrest, hlt, hk⟩
              · rw [if_neg hb] at hk
                cases hk
                rw [Bool.not_eq_true _ |>.mp hb]
                show wpAny _ _ (if (!false) = true then _ else _) _ _ _
                rw [if_pos (by decide)]
                exact wpAny_pure (wpAny_pure q)
            · rw [if_neg hd] at hk
              cases hk
    · rintro w s' ⟨rfl, rfl, i, hr, hi, hk⟩
      have hin : i = es1.size := by
        rcases Nat.lt_or_ge i es1.size with c | c
        · have er : es1.size - i = (es1.size - (i + 1)) + 1 := by omega
          rw [er, List.range'_succ] at hr
          cases hr
        · omega
      rw [hin, z1, List.drop_length] at hk
      cases hk
      exact wpAny_pure q
  · rw [if_neg hz] at h
    cases h
    rw [if_pos (by rw [z1, z2]; simpa using hz)]
    exact wpAny_bind (wpAny_rule (wpAny_pure q))
theorem nd_rc (op : CmpOp) (wanted : Bool) (hu : A.units + 140 < cLine) (I : L2.Inv X pins σ H s) (T1 : Dat X ρ H s a e1 kv1 es1 ks1) (T2 : Dat X ρ H s b e2 kv2 es2 ks2) (h : eqK kv1 kv2 = some r)
    (hop : op = .Eq ∧ wanted = true ∨ op = .NotEq ∧ wanted = false) {Q : Value → Shared → Prop} (q : Q (.bool (r == wanted)) s) : wpAny (model X.prog X.w) A (richCompare op (.ref a) (.ref b)) Q E s := by
  rcases hop with ⟨rfl, rfl⟩ | ⟨rfl, rfl⟩
  · refine wpAny_richCompare_same_room (op := .Eq) T1.rw.ty T2.rw.ty PySem.F.slot_dict_eq (wpAny_call_entry PySem.F.slot_dict_eq T1.rw.ty PySem.F.entry_dict_eq ?_ (PySem.F.args_dict_eq_2 _ _)) (by omega)
    show wpAny _ _ (Builtin.Dict.dictSlotArgs "__eq__" ⟨[.ref a, .ref b], []⟩ >>= _) _ _ s
    refine wpAny_bind ?_
    unfold Builtin.Dict.dictSlotArgs
    refine wpAny_bind (wpAny_notOrdered_dict T1.rw.ty (wpAny_pure ?_))
    refine wpAny_bind (wpAny_isInstance (T := "dict") T2.rw.ty PySem.F.sub_dict_dict ?_)
    simp only [Bool.not_true, Bool.false_eq_true, if_false]
    refine wpAny_bind (wpAny_pure (wpAny_bind (wpAny_pure (wpAny_bind (nd_same (by show A.units + 1 + 130 < cLine; omega) I T1 T2 h (wpAny_pure ⟨_, rfl, ?_, ?_⟩))))))
    · exact fun x => nomatch x
    · simpa using q
  · refine wpAny_richCompare_same_room (op := .NotEq) T1.rw.ty T2.rw.ty PySem.F.slot_dict_ne (wpAny_call_entry PySem.F.slot_dict_ne T1.rw.ty PySem.F.entry_dict_ne ?_ (PySem.F.args_dict_ne_2 _ _)) (by omega)
    show wpAny _ _ (Builtin.Dict.dictSlotArgs "__ne__" ⟨[.ref a, .ref b], []⟩ >>= _) _ _ s
    refine wpAny_bind ?_
    unfold Builtin.Dict.dictSlotArgs
    refine wpAny_bind (wpAny_notOrdered_dict T1.rw.ty (wpAny_pure ?_))
    refine wpAny_bind (wpAny_isInstance (T := "dict") T2.rw.ty PySem.F.sub_dict_dict ?_)
    simp only [Bool.not_true, Bool.false_eq_true, if_false]
    refine wpAny_bind (wpAny_pure (wpAny_bind (wpAny_pure (wpAny_bind (nd_same (by show A.units + 1 + 130 < cLine; omega) I T1 T2 h (wpAny_pure ⟨_, rfl, ?_, ?_⟩))))))
    · exact fun x => nomatch x
    · simpa using q
end
def dEqD : DOp := fun d1 d2 S R => ∃ i j e1 e2 k1 k2 b, d1 = .loc i ∧ d2 = .loc j ∧ S[i]? = some (.dct e1 k1) ∧ S[j]? = some (.dct e2 k2) ∧ eqK k1 k2 = some b ∧ R (.bl b) S
def dNeD : DOp := fun d1 d2 S R => ∃ i j e1 e2 k1 k2 b, d1 = .loc i ∧ d2 = .loc j ∧ S[i]? = some (.dct e1 k1) ∧ S[j]? = some (.dct e2 k2) ∧ eqK k1 k2 = some b ∧ R (.bl (!b)) S
section
variable {X : Cx}
theorem od_eqD (hu : X.A.units + 150 < cLine) : OpR X (compareOp .Eq) (rD X dEqD) := fun pins s σ H x y v u Q I rx ry ⟨ρ, S, d1, d2, R, W, r1, r2, ⟨i, j, e1, e2, k1, k2, b, g1, g2, h1, h2, h3, q⟩, p⟩ => by
  subst g1 g2
  obtain ⟨a, c1, rfl⟩ := r1.loc_of
  obtain ⟨a2, c2, rfl⟩ := r2.loc_of
  cases (show v = Value.ref a from rx)
  cases (show u = Value.ref a2 from ry)
  obtain ⟨es1, ks1, T1⟩ := dat_of I (W.obj i a _ c1 h1)
  obtain ⟨es2, ks2, T2⟩ := dat_of I (W.obj j a2 _ c2 h2)
  refine nd_rc .Eq true (by omega) I T1 T2 h3 (.inl ⟨rfl, rfl⟩) ⟨.bl b, H, I, by cases b <;> rfl, p _ _ q ρ H _ (Ext.refl _ _) W .bl⟩
theorem od_neD (hu : X.A.units + 150 < cLine) : OpR X (compareOp .NotEq) (rD X dNeD) := fun pins s σ H x y v u Q I rx ry ⟨ρ, S, d1, d2, R, W, r1, r2, ⟨i, j, e1, e2, k1, k2, b, g1, g2, h1, h2, h3, q⟩, p⟩ => by
  subst g1 g2
  obtain ⟨a, c1, rfl⟩ := r1.loc_of
  obtain ⟨a2, c2, rfl⟩ := r2.loc_of
  cases (show v = Value.ref a from rx)
  cases (show u = Value.ref a2 from ry)
  obtain ⟨es1, ks1, T1⟩ := dat_of I (W.obj i a _ c1 h1)
  obtain ⟨es2, ks2, T2⟩ := dat_of I (W.obj j a2 _ c2 h2)
  refine nd_rc .NotEq false (by omega) I T1 T2 h3 (.inr ⟨rfl, rfl⟩) ⟨.bl (!b), H, I, by cases b <;> rfl, p _ _ q ρ H _ (Ext.refl _ _) W .bl⟩
end
end Dl

namespace Dl
open PySem L2 PyProof.Rows PySem.Spec

/-! ## dicts: displays, methods, len -/
/-- the dict of the pairs, one stored behind the other -/
def stoD : Nat × List (D × D) → List (D × D) → Option (Nat × List (D × D))
  | acc, [] => some acc
  | acc, (k, v) :: r => match keyD k with
    | some kk => stoD (epD acc.1 acc.2 kk, putD acc.2 kk k v) r
    | none => none
abbrev WP := DEnv → Sto → (List (D × D) → Sto → Prop) → Prop
def wpNil : WP := fun _ S Q => Q [] S
def wpCons (wk wv : WE) (wr : WP) : WP := fun τ S Q => wk τ S fun k S1 => wv τ S1 fun v S2 => wr τ S2 fun ps S3 => Q ((k, v) :: ps) S3
/-- {k: v, ..} -/
def wDct (wr : WP) : WE := fun τ S R => wr τ S fun ps S1 => ps.length ≤ 1000 ∧ ∃ z, stoD (0, []) ps = some z ∧ R (.loc S1.length) (S1 ++ [.dct z.1 z.2])
def wDct0 : WE := fun τ S R => R (.loc S.length) (S ++ [.dct 0 []])
abbrev VRp (K : PySem.W.Frag) (ρ : List Addr) (H : Hp) (p : D × D) (q : V × V) : Prop := VR K ρ H p.1 q.1 ∧ VR K ρ H p.2 q.2
abbrev TP := L2.St → Hp → (List (V × V) → Hp → Prop) → Prop
structure PPd (X : Cx) (pos : Pos) (keys : List (Option Expr)) (values : List Expr) (t : TP) : Prop where
  run : ∀ (pins : List (Addr × Obj)) (s : Shared) (σ : L2.St) (H : Hp) (Q : List (V × V) → Hp → Prop), L2.Inv X pins σ H s → t σ H Q →
    wpAny (model X.prog X.w) X.A (evalPairs (pairTrees keys values X.env pos)) (fun vs s' => ∃ ps H', L2.Inv X pins σ H' s' ∧ VV ps vs ∧ Q ps H') X.xe s
/-- the pairs; p: the dict that stands ready for them, no object of the store -/
def dP (X : Cx) (w : WP) : TP := fun σ H Q => ∃ ρ τ S R, XW X ρ S H ∧ ER X.K ρ H τ σ ∧ w τ S R ∧ ∀ ps S', R ps S' → ∀ ρ' H' qs, Ext ρ H ρ' H' → XW X ρ' S' H' → Paired (VRp X.K ρ' H') ps qs → Q qs H'
section
variable {X : Cx} {pos : Pos} {k v : Expr} {ks : List (Option Expr)} {vs : List Expr} {wk wv : WE} {wr : WP}
theorem pp_nil : PPd X pos [] [] (dP X wpNil) := ⟨fun pins s σ H Q I ⟨ρ, τ, S, R, W, er, h, p⟩ => pairTrees_nil_walk ⟨[], H, I, .nil, p _ _ h ρ H _ (Ext.refl _ _) W .nil⟩⟩
theorem pp_cons (hk : PE X k (dE X wk)) (hv : PE X v (dE X wv)) (hr : PPd X pos ks vs (dP X wr)) : PPd X pos (some k :: ks) (v :: vs) (dP X (wpCons wk wv wr)) := by
  refine ⟨fun pins s σ H Q I ⟨ρ, τ, S, R, W, er, h, p⟩ => ?_⟩
  refine pairTrees_cons_walk (thn (hk.run pins s σ H (fun x H1 => dE X wv σ H1 fun y H2 => dP X wr σ H2 fun ps H3 => Q ((x, y) :: ps) H3) I ⟨ρ, τ, S, _, W, er, h, fun d1 S1 h1 ρ1 H1 x x1 W1 r1 => ⟨ρ1, τ, S1, _, W1, er.ext W.sep x1, h1, fun d2 S2 h2 ρ2 H2 y x2 W2 r2 =>
    ⟨ρ2, τ, S2, _, W2, (er.ext W.sep x1).ext W1.sep x2, h2, fun ps S3 h3 ρ3 H3 qs x3 W3 r3 => ?_⟩⟩⟩) fun u s1 ⟨x, H1, I1, rx, q1⟩ => thn (hv.run pins s1 σ H1 _ I1 q1) fun w2 s2 ⟨y, H2, I2, ry, q2⟩ =>
      thn (hr.run pins s2 σ H2 _ I2 q2) fun ws s3 ⟨ps, H3, I3, rel, q3⟩ => ⟨(x, y) :: ps, H3, I3, .cons ⟨rx, ry⟩ rel, q3⟩)
  have x12 := x1.trans W1.sep x2
  exact p _ _ h3 ρ3 H3 _ (x12.trans W2.sep x3) W3 (.cons ⟨(r1.ext W1.sep x2).ext W2.sep x3, r2.ext W2.sep x3⟩ r3)
theorem dct_new {P : Program} {w : World} {H : Hp} (h : Heap) : ObjOk P w H (h.push { cls := .type "dict", data := .dict #[] }) h.objs.size (.ext (DictObj h.objs.size #[] 0)) := ext_ok ⟨_, Heap.get?_push_size _ rfl, ⟨rfl, rfl, rfl⟩, rfl⟩
theorem sys_new {h : Heap} (hb : sysModules < h.objs.size) : (h.objs.size == sysModules) = false := beq_eq_false_iff_ne.mpr (Ne.symm (Nat.ne_of_lt hb))
theorem or_empty {ρ : List Addr} {H : Hp} {a : Addr} (hs : (a == sysModules) = false) (h : H a = some (.ext (DictObj a #[] 0))) : OR X.w X.K X.mg ρ H a (.dct 0 []) :=
  ⟨hs, Nat.zero_le _, List.nodup_nil, #[], h, .nil⟩
theorem de_dct0 : PE X (.Dict [] [] pos) (dE X wDct0) := by
  refine ⟨fun pins s σ H Q I ⟨ρ, τ, S, R, W, er, h, p⟩ => ?_⟩
  have hn := I.hok.fresh (Nat.le_refl s.heap.objs.size)
  have I1 := I.laid (a := s.heap.objs.size) (o := .ext (DictObj s.heap.objs.size #[] 0)) (t' := s.toks) (fun _ _ q => Heap.get?_push_of_some _ q) (Nat.le_refl _) (dct_new s.heap)
  refine wpAny_Dict_empty ⟨.ref s.heap.objs.size, _, I1, rfl, ?_⟩
  exact p _ _ h _ _ _ (ext_alloc hn) (W.alloc hn (or_empty (sys_new I.big) upd_same)) (.loc (by rw [← W.len]; exact List.getElem?_concat_length ..))
/-- the pairs are stored -/
theorem nd_store {pins : List (Addr × Obj)} {σ : L2.St} {a : Addr} {ρ : List Addr} (hu : X.A.units + 150 < cLine) : ∀ (ps : List (D × D)) (qs : List (V × V)) (vs : List (Value × Value)) (acc z : Nat × List (D × D)) (s : Shared) (H : Hp) (Q : Hp → Prop), L2.Inv X pins σ H s →
    OR X.w X.K X.mg ρ H a (.dct acc.1 acc.2) → Paired (VRp X.K ρ H) ps qs → VV qs vs → stoD acc ps = some z → acc.2.length + ps.length ≤ 1000 →
    (∀ H', VX ρ H ρ H' → (∀ b, b ≠ a → H' b = H b) → OR X.w X.K X.mg ρ H' a (.dct z.1 z.2) → Q H') → wpAny (model X.prog X.w) X.A (storeAll a vs) (fun _ s' => ∃ H', L2.Inv X pins σ H' s' ∧ Q H') X.xe s
  | [], qs, vs, acc, z, s, H, Q, I, O, pr, rv, e, hl, hQ => by
    cases pr
    cases rv
    cases e
    unfold storeAll
    rw [List.forIn_nil]
    exact wpAny_pure ⟨H, I, hQ H ⟨fun _ _ h => h, fun _ _ h => h, fun _ _ _ h => h⟩ (fun _ _ => rfl) O⟩
  | (k, v) :: ps, qs, vs, acc, z, s, H, Q, I, O, pr, rv, e, hl, hQ => by
    cases pr with
    | @cons _ q0 _ qs' r1 t1 =>
    obtain ⟨q1, q2⟩ := q0
    cases rv with
    | @cons _ v0 _ vs' r2 t2 =>
    obtain ⟨u1, u2⟩ := v0
    unfold stoD at e
    cases ek : keyD k with
    | none =>
      rw [ek] at e
      cases e
    | some kk =>
      rw [ek] at e
      simp only at e
      obtain ⟨es, ks, T⟩ := dat_of I O
      obtain ⟨hk1, hk2⟩ := keyD_of ek
      have kv : Kv s kk u1 := ⟨nested_of I _ _ _ _ hk1 r1.1 r2.1, hk2⟩
      have hsz : sizeLine = 16777216 := sizeLine_eq
      simp only [List.length_cons] at hl
      have hput : (putD acc.2 kk k v).length ≤ acc.2.length + 1 := by
        unfold putD
        split <;> simp
      unfold storeAll
      rw [List.forIn_cons]
      have go : ∀ (h' : Heap) (t : Nat) (u : HO), u = .ext (DictObj a (putE es (kk.hash X.w) u1 u2 none) (acc.1 + 1)) ∨ (∃ j, u = .ext (DictObj a (putE es (kk.hash X.w) u1 u2 (some j)) acc.1)) → L2.Inv X pins σ (upd H a u) { s with heap := h', toks := t } →
          OR X.w X.K X.mg ρ (upd H a u) a (.dct (epD acc.1 acc.2 kk) (putD acc.2 kk k v)) → wpAny (model X.prog X.w) X.A (storeAll a vs') (fun _ s' => ∃ H', L2.Inv X pins σ H' s' ∧ Q H') X.xe { s with heap := h', toks := t } := by
        intro h' t u _ I' O'
        have vx : VX ρ H ρ (upd H a u) := vx_dict T.ext
        refine nd_store hu ps qs' vs' (epD acc.1 acc.2 kk, putD acc.2 kk k v) z _ _ Q I' O' (Paired.mapP t1 fun p q hh => ⟨VR.vx vx _ _ hh.1, VR.vx vx _ _ hh.2⟩) t2 e (by simp only; omega) fun H' vx' same O2 => hQ H' ?_ (fun b hb => by rw [same b hb, upd_ne hb]) O2
        exact ⟨fun l b hh => vx'.1 l b (vx.1 l b hh), fun b ws hh => vx'.2 b ws (vx.2 b ws hh), fun b x y hh => vx'.3 b x y (vx.3 b x y hh)⟩
      refine wpAny_bind (wpAny_bind (nd_set (by omega) T.rw kv (by rw [T.size]; exact T.le) (fun hn h' t g1 g2 => wpAny_pure ?_) fun j hj h' t g1 g2 => wpAny_pure ?_))
      · exact go h' t _ (.inl rfl) (T.write I g1 g2) (T.put_none ek r1.1 r2.1 r1.2 r2.2 (by omega) hn)
      · exact go h' t _ (.inr ⟨j, rfl⟩) (T.write I g1 g2) (T.put_some r1.2 r2.2 hj)
theorem de_dct {keys : List (Option Expr)} {values : List Expr} (hu : X.A.units + 150 < cLine) (h : PPd X pos keys values (dP X wr)) (hall : keys.all (·.isSome) = true) (hl : keys.length = values.length) (h0 : keys ≠ []) (h15 : keys.length ≤ 15) :
    PE X (.Dict keys values pos) (dE X (wDct wr)) := by
  refine ⟨fun pins s σ H Q I ⟨ρ, τ, S, R, W, er, h1, p⟩ => ?_⟩
  have hn := I.hok.fresh (Nat.le_refl s.heap.objs.size)
  have I1 := I.laid (a := s.heap.objs.size) (o := .ext (DictObj s.heap.objs.size #[] 0)) (h' := s.heap.push { cls := .type "dict", data := .dict #[] }) (t' := s.toks) (fun _ _ q => Heap.get?_push_of_some _ q) (Nat.le_refl _) (dct_new s.heap)
  have hs := sys_new I.big
  refine wpAny_Dict_any hall hl h0 h15 (thn (h.run pins _ σ _ (fun qs H' => ∃ ρ' S' ps z, Ext ρ (upd H s.heap.objs.size (.ext (DictObj s.heap.objs.size #[] 0))) ρ' H' ∧ XW X ρ' S' H' ∧ Paired (VRp X.K ρ' H') ps qs ∧ ps.length ≤ 1000 ∧ stoD (0, []) ps = some z ∧ R (.loc S'.length) (S' ++ [.dct z.1 z.2])) I1
    ⟨ρ, τ, S, _, W.laid hn, er.ext W.sep (ext_new hn), h1, fun ps S' ⟨e0, z, e1, e2⟩ ρ' H' qs x' W' r' => ⟨ρ', S', ps, z, x', W', r', e0, e1, e2⟩⟩) ?_)
  rintro vs s2 ⟨qs, H', I2, rv, ρ', S', ps, z, x', W', r', hps, e1, e2⟩
  generalize s.heap.objs.size = a at hn I1 hs x' ⊢
  have na : a ∉ ρ := W.notin hn
  have hb : H' a = some (.ext (DictObj a #[] 0)) := x'.keep a _ upd_same na
  have na' : a ∉ ρ' := fun q => by
    obtain ⟨more, e3, e4⟩ := x'.pre
    rw [e3] at q
    rcases List.mem_append.mp q with q | q
    · exact na q
    · have := e4 a q
      rw [upd_same] at this
      cases this
  refine thn (nd_store hu ps qs vs (0, []) z s2 H' (fun H2 => Q (.ref a) H2) I2 (or_empty hs hb) r' rv e1 (by simpa using hps) fun H2 vx same O2 => ?_) fun _ s3 ⟨H2, I3, q⟩ => ⟨.ref a, H2, I3, rfl, q⟩
  obtain ⟨u, hu2⟩ : ∃ u, H2 a = some u := by
    obtain ⟨_, _, _, es, e5, _⟩ := O2
    exact ⟨_, e5⟩
  have eH : H2 = upd H' a u := by
    funext b
    by_cases hba : b = a
    · subst hba
      rw [hu2, upd_same]
    · rw [same b hba, upd_ne hba]
  have W2 : XW X ρ' S' H2 := by
    rw [eH]
    exact W'.aside na' hb (fun vs q => by cases q) fun x y q => by cases q
  have vx2 : VX ρ' H2 (ρ' ++ [a]) H2 := ⟨fun l b hh => by
    rw [List.getElem?_append_left (List.getElem?_eq_some_iff.mp hh).1]
    exact hh, fun _ _ hh => hh, fun _ _ _ hh => hh⟩
  refine p _ _ e2 (ρ' ++ [a]) H2 _ ⟨?_, fun b o hb2 nb => ?_⟩ (W2.adopt na' (O2.vx vx2 fun _ hh => hh)) (.loc (by rw [← W'.len]; exact List.getElem?_concat_length ..))
  · obtain ⟨more, e3, e4⟩ := x'.pre
    refine ⟨more ++ [a], by rw [e3, List.append_assoc], fun b hb2 => ?_⟩
    rcases List.mem_append.mp hb2 with q | q
    · have h5 := e4 b q
      by_cases hba : b = a
      · rw [hba]; exact hn
      · rw [upd_ne hba] at h5
        exact h5
    · rw [List.mem_singleton.mp q]; exact hn
  · have hba : b ≠ a := fun q => by
      rw [q, hn] at hb2
      cases hb2
    rw [same b hba]
    exact x'.keep b o (by rw [upd_ne hba]; exact hb2) nb
end

/-! ### methods of dicts -/
def isDct (S : Sto) (d : D) : Prop := ∃ l ep kvs, d = .loc l ∧ S[l]? = some (.dct ep kvs)
theorem isDct_loc {S : Sto} {l ep : Nat} {kvs : List (D × D)} (h : S[l]? = some (.dct ep kvs)) : isDct S (.loc l) := ⟨l, ep, kvs, rfl, h⟩
def wMtD0 (o : DMt) (we : WE) : WE := fun τ S R => we τ S fun d S1 => isDct S1 d ∧ o d [] S1 R
def wMtD (o : DMt) (we : WE) (wr : WA) : WE := fun τ S R => we τ S fun d S1 => isDct S1 d ∧ wr τ S1 fun ds S2 => o d ds S2 R
section
variable {X : Cx} {o e : Expr} {es : List Expr} {we : WE} {wr : WA} {name : Str} {apos cpos : Pos} {id : String} {op : DMt}
theorem isDct_at {pins : List (Addr × Obj)} {σ : L2.St} {H : Hp} {s : Shared} {ρ : List Addr} {S : Sto} {d : D} {v : V} {u : Value} (I : L2.Inv X pins σ H s) (W : XW X ρ S H) (r : VR X.K ρ H d v) (ru : RelV v u) (h : isDct S d) :
    s.TypeIs u "dict" ∧ ∀ a, u = .ref a → ∃ ob, s.heap.get? a = some ob ∧ ob.dict = none := by
  obtain ⟨l, ep, kvs, rfl, h1⟩ := h
  obtain ⟨a, h3, rfl⟩ := r.loc_of
  cases (show u = Value.ref a from ru)
  obtain ⟨es, ks, T⟩ := dat_of I (W.obj l a _ h3 h1)
  exact ⟨T.rw.ty, T.rw.noDict⟩
theorem de_mtD (slot : Slot "dict" name id) (hty : typeOf (.builtin id) = pure (.type "method_descriptor")) (hm : MtR X id (rMD X op)) (ho : PE X o (dE X we)) (ha : PA X (e :: es) (dA X wr))
    (hbase : attributeBase o name X.env (eval o X.env) = eval o X.env := by rfl)
    (hfew : ((backTo cpos (starEach (e :: es) X.env)).all (fun x => !x.1) && (backToKw cpos (keywordEach [] X.env)).all (fun x => x.1.isSome)
      && decide ((e :: es).length + ([] : List Keyword).length + (if ([] : List Keyword).isEmpty then 0 else 1) < 30)) = true := by rfl)
    (hline : (apos.endLine == cpos.line) = true := by rfl) (hs : starEach (e :: es) X.env = (false, eval e X.env) :: starEach es X.env := by rfl) (hplain : (backTo cpos (starEach es X.env)).any (·.1) = false := by rfl) :
    PE X (.Call (.Attribute o name apos) (e :: es) [] cpos) (dE X (wMtD op we wr)) := by
  refine ⟨fun pins s σ H Q I ⟨ρ, τ, S, R, W, er, h, p⟩ => ?_⟩
  refine wpAny_Call_method_late hbase hfew hline rfl (thn (ho.run pins s σ H (fun x H1 => ∃ ρ1 S1 d, Ext ρ H ρ1 H1 ∧ XW X ρ1 S1 H1 ∧ VR X.K ρ1 H1 d x ∧ isDct S1 d ∧ wr τ S1 fun ds S2 => op d ds S2 R) I
    ⟨ρ, τ, S, _, W, er, h, fun d S1 ⟨h1, h2⟩ ρ1 H1 v x1 W1 r1 => ⟨ρ1, S1, d, x1, W1, r1, h1, h2⟩⟩) fun v s1 ⟨x, H1, I1, rx, ρ1, S1, d, x1, W1, r1, h1, h2⟩ => ?_)
  obtain ⟨g1, g2⟩ := isDct_at I1 W1 r1 rx h1
  refine ⟨"dict", id, PySem.F.plainAttrs_dict, slot, hty, g1, g2, ?_⟩
  have hA := ha.run cpos pins s1 σ H1 (fun vs H2 => rMD X op x vs H2 Q) I1 ⟨ρ1, τ, S1, _, W1, er.ext W.sep x1, h2, fun ds S2 h3 ρ2 H2 vs x2 W2 r2 => ⟨ρ2, S2, d, ds, R, W2, r1.ext W1.sep x2, r2, h3, (p.ext W1 x1).ext W2 x2⟩⟩
  rw [hs] at hA ⊢
  refine Calls.callWith_builtin (by show (false || (backTo cpos (starEach es X.env)).any (·.1)) = false; rw [hplain] <;> rfl) (Calls.evalArgs_plain ?_)
  exact thn hA fun us s2 ⟨vs, H2, I2, r2, q2⟩ => hm pins s2 σ H2 x vs v us Q I2 rx r2 q2
/-- of a value that may be there -/
def eitherD (o : Option D) (f : D → Prop) (g : Prop) : Prop := match o with
  | some v => f v
  | none => g
@[simp] theorem eitherD_some {f : D → Prop} {g : Prop} {v : D} : eitherD (some v) f g = f v := rfl
@[simp] theorem eitherD_none {f : D → Prop} {g : Prop} : eitherD none f g = g := rfl
def dSetdef : DMt := fun d ds S R => ∃ l ep kvs k x dv, d = .loc l ∧ ds = [x, dv] ∧ S[l]? = some (.dct ep kvs) ∧ keyD x = some k ∧ kvs.length < sizeLine ∧ eitherD (lkD kvs k) (fun v => R v S) (R dv (S.set l (.dct (ep + 1) (kvs ++ [(x, dv)]))))
theorem md_setdef (hu : X.A.units + 150 < cLine) : MtR X "dict.setdefault" (rMD X dSetdef) := by
  intro pins s σ H x xs v us Q I rx rs ⟨ρ, S, d, ds, R, W, r1, r2, ⟨l, ep, kvs, k, x', dv, e1, e2, h1, hk, hz, q⟩, p⟩
  subst e1 e2
  obtain ⟨a, h3, rfl⟩ := r1.loc_of
  cases (show v = Value.ref a from rx)
  obtain ⟨es, ks, T⟩ := dat_of I (W.obj l a _ h3 h1)
  obtain ⟨hk1, hk2⟩ := keyD_of hk
  obtain ⟨xv, dvv, rfl, g1, g2⟩ := r2.two_of
  cases rs with
  | @cons _ u _ _ r3 t =>
  cases t with
  | @cons _ du _ _ r4 t2 =>
  cases t2
  have kv : Kv s k u := ⟨nested_of I _ _ _ _ hk1 g1 r3, hk2⟩
  have fin1 : ∀ (j : Nat) (e : DictEntry), ks[j]? = some k → es[j]? = some e → ∀ t, EP X pins σ Q e.val { s with toks := t } := fun j e g5 g6 t => by
    obtain ⟨v2, dv2, g7, g8, g9⟩ := T.get g5 g6
    rw [g7] at q
    exact ⟨dv2, H, I.tok _, g9, p _ _ q ρ H _ (Ext.refl _ _) W g8⟩
  have fin2 : k ∉ ks → ∀ h' t, DictObj a (putE es (k.hash X.w) u du none) (ep + 1) h' → Heap.SameBut a s.heap h' → EP X pins σ Q du { s with heap := h', toks := t } := fun hn h' t g5 g6 => by
    have e1 := lk_none T.keys hn
    rw [e1] at q
    have hO := T.put_none hk g1 r3 g2 r4 hz hn
    have e3 : epD ep kvs k = ep + 1 := by simp [epD, e1]
    have e4 : putD kvs k x' dv = kvs ++ [(x', dv)] := by simp [putD, e1]
    rw [e3, e4] at hO
    exact ⟨dvv, _, T.write I g5 g6, r4, p _ _ q ρ _ _ (ext_write (List.mem_of_getElem? h3)) (W.write h3 hO) (VR.vx (vx_dict T.ext) _ _ g2)⟩
  refine call_meetsIn F.slot_dict_setdefault T.rw.ty F.entry_dict_setdefault (F.args_dict_setdefault_3 _ _ _)
    (S := fun A' q s' => A' = X.A ∧ s' = s ∧ (∀ (j : Nat) (e : DictEntry), ks[j]? = some k → es[j]? = some e → ∀ t, q (.ok (.ret e.val)) { s with toks := t }) ∧ (k ∉ ks → ∀ h' t, DictObj a (putE es (k.hash X.w) u du none) (ep + 1) h' → Heap.SameBut a s.heap h' → q (.ok (.ret du)) { s with heap := h', toks := t }))
    (fun A' q s' hS => ?_) ⟨rfl, rfl, fin1, fin2⟩
  obtain ⟨rfl, rfl, w1, w2⟩ := hS
  unfold Builtin.«dict.setdefault»
  refine wpAny_bind ?_
  unfold Builtin.Dict.keyAndDefault
  refine wpAny_bind (wpAny_notOrdered_dict T.rw.ty ?_)
  show wpAny _ _ (pure (a, u, some du)) _ _ _
  refine wpAny_pure ?_
  show wpAny _ _ (if (a == sysModules) = true then _ else (dictSetDefault a u du >>= _)) _ _ _
  rw [if_neg (by rw [T.sys]; exact Bool.false_ne_true)]
  refine wpAny_bind (nd_setdefault (by show X.A.units + 1 + 8 < cLine; omega) T.rw kv (by rw [T.size]; exact T.le) (fun hn h' t g5 g6 => wpAny_pure (w2 hn h' t g5 g6)) fun j e g5 g6 t => wpAny_pure (w1 j e g5 g6 t))
/-- len(d) -/
def dLenD : DCall := fun ds S R => ∃ l ep kvs, ds = [.loc l] ∧ S[l]? = some (.dct ep kvs) ∧ R (.int (kvs.length : Nat)) S
theorem nd_len {prog : Program} {w : World} {A : Around} {E : Value → Shared → Prop} {s : Shared} {d : Addr} {es : Array DictEntry} {ep : Nat} {Q : Value → Shared → Prop} (hd : (d == sysModules) = false) (hm : DictObj d es ep s.heap) (hfit : es.size < 2 ^ 62)
    (h : ∀ t t', Q (.int es.size t) { s with toks := t' }) : wpAny (model prog w) A (call (.builtin "len") [.ref d]) Q E s := by
  have ty : s.TypeIs (.ref d) "dict" := by
    obtain ⟨o, h1, h2, _⟩ := hm
    exact ⟨o, h1, h2.1⟩
  refine Calls.call_function_entry kind_len plain_len entry_len (args_len1 _) ?_
  unfold Builtin.«len»
  refine wpAny_bind (m := oneArg "len" _) (wpAny_pure ?_)
  refine wpAny_bind (m := callSpecial? (.ref d) (Str.ofString "__len__")) (wpAny_callSpecial?_slot (name := Str.ofString "__len__") ty F.slot_dict_len (call_len_raw hd (show s.heap.DictRaw d es ep from hm) ?_))
  show wpAny _ _ _ _ _ { s with toks := s.toks + 1 }
  refine wpAny_bind (wpAny_holding (wpAny_pure ?_))
  refine wpAny_bind (wpAny_letGo ?_)
  show wpAny _ _ (if ((es.size : Nat) : Int) < 0 then _ else _) _ _ _
  rw [if_neg (by omega)]
  show wpAny _ _ (if ((es.size : Nat) : Int) ≥ 2 ^ 63 then _ else _) _ _ _
  rw [if_neg (by omega)]
  exact wpAny_bind (wpAny_mkInt (wpAny_pure ⟨_, rfl, h _ _⟩))
theorem cd_lenD : CallR X (.builtin "len") (rCD X dLenD) := by
  intro pins s σ H xs us Q I rs ⟨ρ, S, ds, R, W, r, ⟨l, ep, kvs, e1, h1, q⟩, p⟩
  subst e1
  obtain ⟨v, rfl, rv⟩ := r.one_of
  obtain ⟨a, h3, rfl⟩ := rv.loc_of
  cases rs with
  | @cons _ u _ _ r3 t =>
  cases t
  cases (show u = Value.ref a from r3)
  obtain ⟨es, ks, T⟩ := dat_of I (W.obj l a _ h3 h1)
  have hsz : sizeLine = 16777216 := sizeLine_eq
  refine nd_len T.sys T.rw.ob (by rw [T.size]; have := T.le; omega) fun t t' => ⟨.int (kvs.length : Nat), H, I.tok _, ⟨t, by rw [T.size]⟩, p _ _ q ρ H _ (Ext.refl _ _) W .int⟩
end

/-! ### lists, tuples, texts, dicts in one -/
def dIx : DOp := opOr dIxQ dIxD
/-- what == tells, of dicts, too -/
def eqD (S : Sto) (d1 d2 : D) : Option Bool := match d1, d2 with
  | .loc i, .loc j => match S[i]?, S[j]? with
    | some (.dct _ k1), some (.dct _ k2) => eqK k1 k2
    | _, _ => eqQ S d1 d2
  | _, _ => eqQ S d1 d2
def dEq : DOp := fun d1 d2 S R => ∃ b, eqD S d1 d2 = some b ∧ R (.bl b) S
def dNe : DOp := fun d1 d2 S R => ∃ b, eqD S d1 d2 = some b ∧ R (.bl (!b)) S
theorem eqD_or {S : Sto} {d1 d2 : D} {b : Bool} (h : eqD S d1 d2 = some b) : eqQ S d1 d2 = some b ∨ ∃ i j e1 e2 k1 k2, d1 = .loc i ∧ d2 = .loc j ∧ S[i]? = some (.dct e1 k1) ∧ S[j]? = some (.dct e2 k2) ∧ eqK k1 k2 = some b := by
  unfold eqD at h
  split at h
  · rename_i i j
    split at h
    · rename_i e1 k1 e2 k2 h1 h2
      exact .inr ⟨i, j, e1, e2, k1, k2, rfl, rfl, h1, h2, h⟩
    · exact .inl h
  · exact .inl h
def dIn : DOp := opOr dInB dInD
def dNotIn : DOp := opOr dNotInB dNotInD
def dSet : DSet := fun d1 d2 d3 S R => dSetL d1 d2 d3 S R ∨ dSetDct d1 d2 d3 S R
def dLen : DCall := fun ds S R => dLenQ ds S R ∨ dLenD ds S R
section
variable {X : Cx}
theorem od_eq (hu : X.A.units + 150 < cLine) : OpR X (compareOp .Eq) (rD X dEq) := OpR.imp (OpD.or (od_eqQ hu) (od_eqD hu)) fun x y H Q ⟨ρ, S, d1, d2, R, W, r1, r2, ⟨b, e, q⟩, p⟩ =>
  ⟨ρ, S, d1, d2, R, W, r1, r2, (eqD_or e).elim (fun e => .inl ⟨b, e, q⟩) fun ⟨i, j, e1, e2, k1, k2, g1, g2, h1, h2, h3⟩ => .inr ⟨i, j, e1, e2, k1, k2, b, g1, g2, h1, h2, h3, q⟩, p⟩
theorem od_ne (hu : X.A.units + 150 < cLine) : OpR X (compareOp .NotEq) (rD X dNe) := OpR.imp (OpD.or (od_neQ hu) (od_neD hu)) fun x y H Q ⟨ρ, S, d1, d2, R, W, r1, r2, ⟨b, e, q⟩, p⟩ =>
  ⟨ρ, S, d1, d2, R, W, r1, r2, (eqD_or e).elim (fun e => .inl ⟨b, e, q⟩) fun ⟨i, j, e1, e2, k1, k2, g1, g2, h1, h2, h3⟩ => .inr ⟨i, j, e1, e2, k1, k2, b, g1, g2, h1, h2, h3, q⟩, p⟩
theorem od_ix (hu : X.A.units + 150 < cLine) : IxR X (rD X dIx) := IxD.or od_ixQ (od_ixD hu)
theorem od_in (hu : X.A.units + 150 < cLine) : OpR X (compareOp .In) (rD X dIn) := OpD.or (od_inB hu) (od_inD hu)
theorem od_notIn (hu : X.A.units + 150 < cLine) : OpR X (compareOp .NotIn) (rD X dNotIn) := OpD.or (od_notInB hu) (od_notInD hu)
theorem sd_set (hu : X.A.units + 150 < cLine) : PSet X (rSetD X dSet) := PSet.imp (PSet.or sd_setL (sd_setDct hu)) fun o i v H Q ⟨ρ, S, d1, d2, d3, R, W, r1, r2, r3, q, p⟩ => q.imp (fun q => ⟨ρ, S, d1, d2, d3, R, W, r1, r2, r3, q, p⟩) fun q => ⟨ρ, S, d1, d2, d3, R, W, r1, r2, r3, q, p⟩
theorem cd_len : CallR X (.builtin "len") (rCD X dLen) := CallR.imp (CallR.or cd_lenQ cd_lenD) fun xs H Q ⟨ρ, S, ds, R, W, r, q, p⟩ => q.imp (fun q => ⟨ρ, S, ds, R, W, r, q, p⟩) fun q => ⟨ρ, S, ds, R, W, r, q, p⟩
end
end Dl

namespace Dl
open PySem L2

/-! ## running predicate transformers -/
/-- what is wanted behind a statement that others follow -/
def seqE (s' : WS) (E : DEnds) : DEnds := { E with nx := fun τ' S' => s' E τ' S' }
section
variable {τ : DEnv} {S : Sto} {R : DQ} {Rt : Bool → Sto → Prop} {Ra : List D → Sto → Prop} {E : DEnds} {i j : Nat} {d c : D} {w wa wb wc we : WE} {wr : WA} {t u : WT} {s s' : WS} {o o' : DOp} {g : WG} {gs : WGs} {b : Bool} {x y z : Str} {m n k : Int} {ds xs ys : List D}
@[simp] theorem and_asc {p q r : Prop} : ((p ∧ q) ∧ r) ↔ (p ∧ (q ∧ r)) := and_assoc
@[simp ↓] theorem wVar_ap : wVar i τ S R = ∃ d, τ[i]? = some (some d) ∧ R d S := rfl
@[simp ↓] theorem wC_ap : wC d τ S R = R d S := rfl
@[simp ↓] theorem wOp_ap : wOp o wa wb τ S R = wa τ S fun d1 S1 => wb τ S1 fun d2 S2 => o d1 d2 S2 R := rfl
@[simp ↓] theorem wTest_ap : wTest w τ S Rt = w τ S fun d S1 => ∃ b, d = .bl b ∧ Rt b S1 := rfl
@[simp ↓] theorem wChain_ap : wChain o o' wa wb wc τ S R = wa τ S fun d1 S1 => wb τ S1 fun d2 S2 => o d1 d2 S2 fun d S3 => ∃ k, d = .bl k ∧ if k = true then wc τ S3 fun d3 S4 => o' d2 d3 S4 R else R (.bl false) S3 := rfl
@[simp ↓] theorem wTruth_ap : wTruth w τ S Rt = w τ S fun d S1 => ∃ b, truD S1 d = some b ∧ Rt b S1 := rfl
@[simp ↓] theorem wAnd_ap : wAnd t u τ S Rt = t τ S fun c S1 => if c = true then u τ S1 Rt else Rt false S1 := rfl
@[simp ↓] theorem wOr_ap : wOr t u τ S Rt = t τ S fun c S1 => if c = true then Rt true S1 else u τ S1 Rt := rfl
@[simp ↓] theorem wNot_ap : wNot t τ S Rt = t τ S fun c S1 => Rt (!c) S1 := rfl
@[simp ↓] theorem wAndV_ap : wAndV wa wb τ S R = wa τ S fun d S1 => ∃ b, truD S1 d = some b ∧ if b = true then wb τ S1 R else R d S1 := rfl
@[simp ↓] theorem wOrV_ap : wOrV wa wb τ S R = wa τ S fun d S1 => ∃ b, truD S1 d = some b ∧ if b = true then R d S1 else wb τ S1 R := rfl
@[simp ↓] theorem wNotV_ap : wNotV wa τ S R = wa τ S fun d S1 => ∃ b, truD S1 d = some b ∧ R (.bl (!b)) S1 := rfl
@[simp ↓] theorem wIf_ap : wIf t wa wb τ S R = t τ S fun c S1 => if c = true then wa τ S1 R else wb τ S1 R := rfl
@[simp ↓] theorem wNil_ap : wNil τ S Ra = Ra [] S := rfl
@[simp ↓] theorem wCons_ap : wCons wa wr τ S Ra = wa τ S fun d S1 => wr τ S1 fun ds S2 => Ra (d :: ds) S2 := rfl
@[simp ↓] theorem wTup_ap : wTup wr τ S R = wr τ S fun ds S1 => ds.length ≤ sizeLine ∧ R (.tup ds) S1 := rfl
@[simp ↓] theorem wLst_ap : wLst wr τ S R = wr τ S fun ds S1 => ds.length ≤ sizeLine ∧ R (.loc S1.length) (S1 ++ [.lst ds]) := rfl
@[simp ↓] theorem wNoPart_ap {Ro : Option Int → Sto → Prop} : wNoPart τ S Ro = Ro none S := rfl
@[simp ↓] theorem wPart_ap {Ro : Option Int → Sto → Prop} : wPart w τ S Ro = w τ S fun d S1 => ∃ i, d = .int i ∧ Ro (some i) S1 := rfl
@[simp ↓] theorem wSl_ap {o : DSl} {wl wh : WO} : wSl o we wl wh τ S R = we τ S fun d S1 => wl τ S1 fun l S2 => wh τ S2 fun u S3 => o d l u S3 R := rfl
@[simp ↓] theorem wCB_ap {o : DCall} : wCB o wr τ S R = wr τ S fun ds S1 => o ds S1 R := rfl
@[simp ↓] theorem wCall_ap {sp : DSp} : wCall sp wr τ S R = wr τ S fun ds S1 => sp ds S1 R := rfl
@[simp ↓] theorem wIsi_ap {T : String} : wIsi T we τ S R = we τ S fun d S1 => ∃ t b, typD S1 d = some t ∧ kitB t T = some b ∧ R (.bl b) S1 := rfl
@[simp ↓] theorem wNeg_ap : wNeg we τ S R = we τ S fun d S1 => ∃ i, d = .int i ∧ R (.int (-i)) S1 := rfl
@[simp ↓] theorem wMt0_ap {T : String} {o : DMt} : wMt0 T o we τ S R = we τ S fun d S1 => tyD S1 T d ∧ o d [] S1 R := rfl
@[simp ↓] theorem wMt_ap {T : String} {o : DMt} : wMt T o we wr τ S R = we τ S fun d S1 => tyD S1 T d ∧ wr τ S1 fun ds S2 => o d ds S2 R := rfl
@[simp ↓] theorem wSkip_ap : wSkip E τ S = E.nx τ S := rfl
@[simp ↓] theorem wSeq_ap : wSeq s s' E τ S = s (seqE s' E) τ S := rfl
@[simp ↓] theorem seqE_nx : (seqE s' E).nx τ S = s' E τ S := rfl
@[simp ↓] theorem seqE_rt : (seqE s' E).rt = E.rt := rfl
@[simp ↓] theorem seqE_bk : (seqE s' E).bk = E.bk := rfl
@[simp ↓] theorem seqE_ct : (seqE s' E).ct = E.ct := rfl
@[simp ↓] theorem wBreak_ap : wBreak E τ S = E.bk τ S := rfl
@[simp ↓] theorem wCont_ap : wCont E τ S = E.ct τ S := rfl
@[simp ↓] theorem wDrop_ap : wDrop we E τ S = we τ S fun _ S1 => E.nx τ S1 := rfl
@[simp ↓] theorem wRet_ap : wRet we E τ S = we τ S E.rt := rfl
@[simp ↓] theorem wRetN_ap : wRetN E τ S = E.rt .non S := rfl
@[simp ↓] theorem wIfS_ap : wIfS t s s' E τ S = t τ S fun b S1 => if b = true then s E τ S1 else s' E τ S1 := rfl
@[simp ↓] theorem wgName_ap {Rn : DEnv → Sto → Prop} : wgName i d τ S Rn = Rn (τ.set i (some d)) S := rfl
theorem wgNil_ap {Rn : DEnv → Sto → Prop} : wgNil ds τ S Rn = (ds = [] ∧ Rn τ S) := rfl
theorem wgCons_ap {Rn : DEnv → Sto → Prop} : wgCons g gs ds τ S Rn = ∃ d r, ds = d :: r ∧ g d τ S fun τ1 S1 => gs r τ1 S1 Rn := rfl
theorem wgTup_ap {Rn : DEnv → Sto → Prop} {n : Nat} : wgTup n gs d τ S Rn = ∃ ds, d = .tup ds ∧ ds.length = n ∧ gs ds τ S Rn := rfl
@[simp ↓] theorem wgNil_nil {Rn : DEnv → Sto → Prop} : wgNil [] τ S Rn = Rn τ S := by simp [wgNil_ap]
@[simp ↓] theorem wgNil_cons {Rn : DEnv → Sto → Prop} : wgNil (d :: ds) τ S Rn = False := by simp [wgNil_ap]
@[simp ↓] theorem wgCons_cons {Rn : DEnv → Sto → Prop} : wgCons g gs (d :: ds) τ S Rn = g d τ S fun τ1 S1 => gs ds τ1 S1 Rn := by
  rw [wgCons_ap]
  refine propext ⟨fun ⟨d', r', e, h⟩ => ?_, fun h => ⟨_, _, rfl, h⟩⟩
  cases e
  exact h
@[simp ↓] theorem wgTup_tup {Rn : DEnv → Sto → Prop} {n : Nat} : wgTup n gs (.tup ds) τ S Rn = (ds.length = n ∧ gs ds τ S Rn) := by simp [wgTup_ap]
@[simp ↓] theorem wgSub_ap {Rn : DEnv → Sto → Prop} {op : DSet} : wgSub wa wb op d τ S Rn = wa τ S fun d1 S1 => wb τ S1 fun d2 S2 => op d1 d2 d S2 fun S3 => Rn τ S3 := rfl
@[simp ↓] theorem wAsg_ap : wAsg we g E τ S = we τ S fun d S1 => g d τ S1 E.nx := rfl
@[simp ↓] theorem wPar_ap : wPar i j wr E τ S = wr τ S fun ds S1 => ∃ d c, ds = [d, c] ∧ E.nx ((τ.set i (some d)).set j (some c)) S1 := rfl
@[simp ↓] theorem wAug_ap : wAug i we o E τ S = ∃ d, τ[i]? = some (some d) ∧ we τ S fun c S1 => o d c S1 fun z S2 => E.nx (τ.set i (some z)) S2 := rfl
@[simp ↓] theorem wFor_ap {wi : WI} : wFor wi g s E τ S = wi τ S fun items chk S1 => forGo chk g s E items τ S1 := rfl
@[simp ↓] theorem wLc_ap {wi : WI} {vs : List Nat} : wLc wi g t we vs τ S R = wi τ S fun items chk S1 => lcGo chk g t we (wipeD τ vs) R items [] S1 := rfl
@[simp ↓] theorem wYes_ap : wYes τ S Rt = Rt true S := rfl
@[simp ↓] theorem wiAny_ap {Ri : List D → (Sto → Prop) → Sto → Prop} : wiAny we τ S Ri = we τ S fun d S1 => ∃ p, itemsD S1 d = some p ∧ Ri p.1 p.2 S1 := rfl
@[simp ↓] theorem wiRange1_ap {Ri : List D → (Sto → Prop) → Sto → Prop} : wiRange1 wr τ S Ri = wr τ S fun ds S1 => ∃ j : Int, ds = [.int j] ∧ -(2 ^ 62) ≤ j ∧ j < 2 ^ 62 ∧ Ri (rangeD 0 j.toNat) (fun _ => True) S1 := rfl
@[simp ↓] theorem wiRange2_ap {Ri : List D → (Sto → Prop) → Sto → Prop} : wiRange2 wr τ S Ri = wr τ S fun ds S1 => ∃ i j : Int, ds = [.int i, .int j] ∧ (-(2 ^ 62) ≤ i ∧ i < 2 ^ 62 ∧ -(2 ^ 62) ≤ j ∧ j < 2 ^ 62) ∧ Ri (rangeD i (j - i).toNat) (fun _ => True) S1 := rfl
@[simp ↓] theorem wiZip_ap {Ri : List D → (Sto → Prop) → Sto → Prop} : wiZip wr τ S Ri = wr τ S fun ds S1 => ∃ d1 d2, ds = [d1, d2] ∧ ((∃ xs ys, d1 = .tup xs ∧ d2 = .tup ys ∧ Ri (zipD xs ys) (fun S => True ∧ True) S1) ∨
  ∃ p q, lstD S1 d1 = some p ∧ lstD S1 d2 = some q ∧ Ri (zipD p.1 q.1) (fun S => p.2 S ∧ q.2 S) S1) := rfl
@[simp ↓] theorem wiEnum_ap {Ri : List D → (Sto → Prop) → Sto → Prop} : wiEnum wr τ S Ri = wr τ S fun ds S1 => ∃ d p, ds = [d] ∧ lstD S1 d = some p ∧ Ri (enumD p.1) p.2 S1 := rfl

/-! ### the operations -/
@[simp] theorem dAdd_int : dAdd (.int m) (.int n) S R = R (.int (m + n)) S := by simp [dAdd, opOr, dAddI, dAddS, dAddT, dAddL]
@[simp] theorem dAdd_str : dAdd (.str x) (.str y) S R = (x.length + y.length ≤ sizeLine ∧ R (.str (x ++ y)) S) := by simp [dAdd, opOr, dAddI, dAddS, dAddT, dAddL]
@[simp] theorem dAdd_tup : dAdd (.tup xs) (.tup ys) S R = (xs.length + ys.length ≤ sizeLine ∧ R (.tup (xs ++ ys)) S) := by simp [dAdd, opOr, dAddI, dAddS, dAddT, dAddL]
@[simp] theorem dAdd_loc : dAdd (.loc i) (.loc j) S R = ∃ xs ys, S[i]? = some (.lst xs) ∧ S[j]? = some (.lst ys) ∧ xs.length + ys.length ≤ sizeLine ∧ R (.loc S.length) (S ++ [.lst (xs ++ ys)]) := by simp [dAdd, opOr, dAddI, dAddS, dAddT, dAddL]
@[simp] theorem dSub_int : dSub (.int m) (.int n) S R = R (.int (m - n)) S := by simp [dSub]
@[simp] theorem dMul_int : dMul (.int m) (.int n) S R = (CMulW m n ∧ R (.int (m * n)) S) := by simp [dMul, opOr, dMulI, dMulS, dMulL]
@[simp] theorem dMul_str : dMul (.str x) (.int n) S R = (0 ≤ n ∧ n < 2 ^ 62 ∧ x.length * n.toNat ≤ sizeLine ∧ R (.str (repS x n.toNat)) S) := by simp [dMul, opOr, dMulI, dMulS, dMulL]
@[simp] theorem dMod_int : dMod (.int m) (.int n) S R = (n ≠ 0 ∧ R (.int (m.fmod n)) S) := by simp [dMod]
@[simp] theorem dDiv_int : dDiv (.int m) (.int n) S R = (CDivW m n ∧ R (.int (m / n)) S) := by simp [dDiv]
@[simp] theorem dPow_int : dPow (.int m) (.int n) S R = (CPow m n ∧ R (.int (m ^ n.toNat)) S) := by simp [dPow]
@[simp] theorem dLtI_int : dLtI (.int m) (.int n) S R = R (.bl (decide (m < n))) S := by simp [dLtI]
@[simp] theorem dLe_int : dLe (.int m) (.int n) S R = R (.bl (decide (m ≤ n))) S := by simp [dLe]
@[simp] theorem dGt_int : dGt (.int m) (.int n) S R = R (.bl (decide (n < m))) S := by simp [dGt]
@[simp] theorem dGe_int : dGe (.int m) (.int n) S R = R (.bl (decide (n ≤ m))) S := by simp [dGe]
@[simp] theorem dIAdd_int : dIAdd (.int m) (.int n) S R = R (.int (m + n)) S := by simp [dIAdd, opOr, dAddI, dAddS]
@[simp] theorem dIAdd_str : dIAdd (.str x) (.str y) S R = (x.length + y.length ≤ sizeLine ∧ R (.str (x ++ y)) S) := by simp [dIAdd, opOr, dAddI, dAddS]
@[simp] theorem dEq_ap : dEq d c S R = ∃ b, eqD S d c = some b ∧ R (.bl b) S := rfl
@[simp] theorem dNe_ap : dNe d c S R = ∃ b, eqD S d c = some b ∧ R (.bl (!b)) S := rfl
@[simp] theorem dIsN_ap : dIsN d .non S R = R (.bl (isNonD d)) S := by simp [dIsN]
@[simp] theorem dIsNotN_ap : dIsNotN d .non S R = R (.bl (!isNonD d)) S := by simp [dIsNotN]
@[simp] theorem isNonD_non : isNonD .non = true := rfl
@[simp] theorem isNonD_int : isNonD (.int m) = false := rfl
@[simp] theorem isNonD_bl : isNonD (.bl b) = false := rfl
@[simp] theorem isNonD_str : isNonD (.str x) = false := rfl
@[simp] theorem isNonD_tup : isNonD (.tup ds) = false := rfl
@[simp] theorem isNonD_loc : isNonD (.loc i) = false := rfl
@[simp] theorem isNonD_fls : isNonD (.fls ds) = false := rfl
@[simp] theorem truD_non : truD S .non = some false := rfl
@[simp] theorem truD_bl : truD S (.bl b) = some b := rfl
@[simp] theorem truD_int : truD S (.int m) = some (m != 0) := rfl
@[simp] theorem truD_tup : truD S (.tup ds) = some (!ds.isEmpty) := rfl
@[simp] theorem truD_fls : truD S (.fls ds) = some (!ds.isEmpty) := rfl
@[simp] theorem typD_non : typD S .non = some "NoneType" := rfl
@[simp] theorem typD_bl : typD S (.bl b) = some "bool" := rfl
@[simp] theorem typD_int : typD S (.int m) = some "int" := rfl
@[simp] theorem typD_str : typD S (.str x) = some "str" := rfl
@[simp] theorem typD_tup : typD S (.tup ds) = some "tuple" := rfl
@[simp] theorem typD_fls : typD S (.fls ds) = some "list" := rfl
theorem typD_lst (h : S[i]? = some (.lst xs)) : typD S (.loc i) = some "list" := by simp [typD, h]
theorem typD_dct {ep : Nat} {kvs : List (D × D)} (h : S[i]? = some (.dct ep kvs)) : typD S (.loc i) = some "dict" := by simp [typD, h]
@[simp] theorem seqD_tup : seqD S (.tup ds) = some ds := rfl
@[simp] theorem seqD_fls : seqD S (.fls ds) = some ds := rfl
theorem seqD_loc (h : S[i]? = some (.lst xs)) : seqD S (.loc i) = some xs := by simp [seqD, h]
@[simp] theorem seqD_str : seqD S (.str x) = none := rfl
@[simp] theorem itemsD_tup : itemsD S (.tup ds) = some (ds, fun _ => True) := rfl
@[simp] theorem itemsD_fls : itemsD S (.fls ds) = some (ds, fun _ => True) := rfl
@[simp] theorem itemsD_str : itemsD S (.str x) = some (signsD x, fun _ => True) := rfl
theorem itemsD_loc (h : S[i]? = some (.lst xs)) : itemsD S (.loc i) = some (xs, fun S' => S'[i]? = some (.lst xs)) := by simp [itemsD, h]
theorem itemsD_dct {ep : Nat} {kvs : List (D × D)} (h : S[i]? = some (.dct ep kvs)) : itemsD S (.loc i) = some (kvs.map (·.1), fun S' => S'[i]? = some (.dct ep kvs)) := by simp [itemsD, h]
@[simp] theorem lstD_fls : lstD S (.fls ds) = some (ds, fun _ => True) := rfl
@[simp] theorem lstD_tup : lstD S (.tup ds) = none := rfl
theorem lstD_loc (h : S[i]? = some (.lst xs)) : lstD S (.loc i) = some (xs, fun S' => S'[i]? = some (.lst xs)) := by simp [lstD, h]
@[simp] theorem lenD_tup : lenD S (.tup ds) = some ds.length := rfl
@[simp] theorem lenD_fls : lenD S (.fls ds) = some ds.length := rfl
theorem lenD_loc (h : S[i]? = some (.lst xs)) : lenD S (.loc i) = some xs.length := by simp [lenD, seqD_loc h]
theorem lenD_str (h : x.length ≤ sizeLine) : lenD S (.str x) = some x.length := by simp [lenD, h]
theorem lenD_none_dct {ep : Nat} {kvs : List (D × D)} (h : S[i]? = some (.dct ep kvs)) : lenD S (.loc i) = none := by simp [lenD, seqD, h]
@[simp] theorem dLen_tup : dLen [.tup ds] S R = R (.int (ds.length : Nat)) S := by simp [dLen, dLenQ, dLenD, lenD, seqD]
@[simp] theorem dLen_fls : dLen [.fls ds] S R = R (.int (ds.length : Nat)) S := by simp [dLen, dLenQ, dLenD, lenD, seqD]
@[simp] theorem dLen_str : dLen [.str x] S R = (x.length ≤ sizeLine ∧ R (.int (x.length : Nat)) S) := by
  by_cases h : x.length ≤ sizeLine <;> simp [dLen, dLenQ, dLenD, lenD, h]
theorem dLen_loc (h : S[i]? = some (.lst xs)) : dLen [.loc i] S R = R (.int (xs.length : Nat)) S := by simp [dLen, dLenQ, dLenD, lenD, seqD, h]
theorem dLen_dct {ep : Nat} {kvs : List (D × D)} (h : S[i]? = some (.dct ep kvs)) : dLen [.loc i] S R = R (.int (kvs.length : Nat)) S := by simp [dLen, dLenQ, dLenD, lenD, seqD, h]
@[simp] theorem dList_ap : dList [d] S R = ∃ xs, seqD S d = some xs ∧ R (.loc S.length) (S ++ [.lst xs]) := by simp [dList]
@[simp] theorem dTuple_ap : dTuple [d] S R = ∃ xs, seqD S d = some xs ∧ R (.tup xs) S := by simp [dTuple]
@[simp] theorem dMax2_ap : dMax2 [.int m, .int n] S R = R (.int (if n > m then n else m)) S := by simp [dMax2, and_assoc]
@[simp] theorem dMin2_ap : dMin2 [.int m, .int n] S R = R (.int (if n < m then n else m)) S := by simp [dMin2, and_assoc]
@[simp] theorem dAll_ap : dAll [d] S R = ∃ p bs, lstD S d = some p ∧ blsD p.1 = some bs ∧ R (.bl (bs.all id)) S := by simp [dAll]
@[simp] theorem dAny_ap : dAny [d] S R = ∃ p bs, lstD S d = some p ∧ blsD p.1 = some bs ∧ R (.bl (bs.any id)) S := by simp [dAny]
@[simp] theorem dIx_tup : dIx (.tup ds) (.int m) S R = ∃ d, atI ds m = some d ∧ R d S := by simp [dIx, opOr, dIxQ, dIxD]
@[simp] theorem dIx_fls : dIx (.fls ds) (.int m) S R = ∃ d, atI ds m = some d ∧ R d S := by simp [dIx, opOr, dIxQ, dIxD]
@[simp] theorem dIx_str : dIx (.str x) (.int m) S R = ∃ c, x.length ≤ sizeLine ∧ atI x.cps.toList m = some c ∧ R (.str ⟨#[c]⟩) S := by simp [dIx, opOr, dIxQ, dIxD]
theorem dIx_loc (h : S[i]? = some (.lst xs)) : dIx (.loc i) (.int m) S R = ∃ d, atI xs m = some d ∧ R d S := by simp [dIx, opOr, dIxQ, dIxD, seqD_loc h, h]
theorem dIx_dct {ep : Nat} {kvs : List (D × D)} (h : S[i]? = some (.dct ep kvs)) : dIx (.loc i) d S R = ∃ k v, keyD d = some k ∧ lkD kvs k = some v ∧ R v S := by simp [dIx, opOr, dIxQ, dIxD, seqD, h]
@[simp] theorem dSl_tup {lo hi : Option Int} : dSl (.tup ds) lo hi S R = R (.tup (cutD ds lo hi)) S := by simp [dSl, slOr, dSlL, dSlT, dSlS]
@[simp] theorem dSl_str {lo hi : Option Int} : dSl (.str x) lo hi S R = (x.length ≤ sizeLine ∧ R (.str (cutS x lo hi)) S) := by simp [dSl, slOr, dSlL, dSlT, dSlS, lstD]
theorem dSl_loc {lo hi : Option Int} (h : S[i]? = some (.lst xs)) : dSl (.loc i) lo hi S R = R (.loc S.length) (S ++ [.lst (cutD xs lo hi)]) := by simp [dSl, slOr, dSlL, dSlT, dSlS, lstD_loc h]
theorem dSet_loc {Rs : Sto → Prop} (h : S[i]? = some (.lst xs)) : dSet (.loc i) (.int m) d S Rs = ∃ j, ixN xs.length m = some j ∧ Rs (S.set i (.lst (xs.set j d))) := by simp [dSet, dSetL, dSetDct, h]
theorem dSet_dct {Rs : Sto → Prop} {ep : Nat} {kvs : List (D × D)} (h : S[i]? = some (.dct ep kvs)) : dSet (.loc i) c d S Rs = ∃ k, keyD c = some k ∧ kvs.length < sizeLine ∧ Rs (S.set i (.dct (epD ep kvs k) (putD kvs k c d))) := by simp [dSet, dSetL, dSetDct, h]
theorem dSetL_loc {Rs : Sto → Prop} (h : S[i]? = some (.lst xs)) : dSetL (.loc i) (.int m) d S Rs = ∃ j, ixN xs.length m = some j ∧ Rs (S.set i (.lst (xs.set j d))) := by simp [dSetL, h]
theorem dAppend_loc (h : S[i]? = some (.lst xs)) : dAppend (.loc i) [d] S R = (xs.length < sizeLine ∧ R .non (S.set i (.lst (xs ++ [d])))) := by simp [dAppend, h]
theorem tyD_loc (h : S[i]? = some (.lst xs)) : tyD S "list" (.loc i) := ⟨xs, rfl, h⟩
@[simp] theorem tyD_str : tyD S "str" (.str x) := rfl
@[simp] theorem startD_0 {n : Nat} : startD n [] = List.replicate n none := by simp [startD]
/-! ### places -/
theorem atI_nn {α : Type} {xs : List α} {m : Int} (h0 : 0 ≤ m) : atI xs m = xs[m.toNat]? := by
  unfold atI ixN
  rw [if_pos h0]
  by_cases h : m < xs.length
  · rw [if_pos h]
    rfl
  · rw [if_neg h]
    have : xs.length ≤ m.toNat := by omega
    rw [List.getElem?_eq_none this]
    rfl
@[simp] theorem atI_0 {α : Type} {xs : List α} : atI xs 0 = xs[0]? := atI_nn (by decide)
@[simp] theorem atI_1 {α : Type} {xs : List α} : atI xs 1 = xs[1]? := atI_nn (by decide)
@[simp] theorem atI_2 {α : Type} {xs : List α} : atI xs 2 = xs[2]? := atI_nn (by decide)
@[simp] theorem atI_3 {α : Type} {xs : List α} : atI xs 3 = xs[3]? := atI_nn (by decide)
@[simp] theorem atI_4 {α : Type} {xs : List α} : atI xs 4 = xs[4]? := atI_nn (by decide)
@[simp] theorem atI_5 {α : Type} {xs : List α} : atI xs 5 = xs[5]? := atI_nn (by decide)
@[simp] theorem atI_6 {α : Type} {xs : List α} : atI xs 6 = xs[6]? := atI_nn (by decide)
@[simp] theorem atI_7 {α : Type} {xs : List α} : atI xs 7 = xs[7]? := atI_nn (by decide)
@[simp] theorem atI_8 {α : Type} {xs : List α} : atI xs 8 = xs[8]? := atI_nn (by decide)
@[simp] theorem atI_9 {α : Type} {xs : List α} : atI xs 9 = xs[9]? := atI_nn (by decide)
@[simp] theorem ixN_0 {n : Nat} : ixN n 0 = if 0 < n then some 0 else none := by
  unfold ixN
  rw [if_pos (by decide)]
  by_cases h : 0 < n
  · rw [if_pos h, if_pos (by omega)]
    rfl
  · rw [if_neg h, if_neg (by omega)]
@[simp] theorem ixN_1 {n : Nat} : ixN n 1 = if 1 < n then some 1 else none := by
  unfold ixN
  rw [if_pos (by decide)]
  by_cases h : 1 < n
  · rw [if_pos h, if_pos (by omega)]
    rfl
  · rw [if_neg h, if_neg (by omega)]
@[simp] theorem ixN_2 {n : Nat} : ixN n 2 = if 2 < n then some 2 else none := by
  unfold ixN
  rw [if_pos (by decide)]
  by_cases h : 2 < n
  · rw [if_pos h, if_pos (by omega)]
    rfl
  · rw [if_neg h, if_neg (by omega)]
@[simp] theorem ixN_3 {n : Nat} : ixN n 3 = if 3 < n then some 3 else none := by
  unfold ixN
  rw [if_pos (by decide)]
  by_cases h : 3 < n
  · rw [if_pos h, if_pos (by omega)]
    rfl
  · rw [if_neg h, if_neg (by omega)]
@[simp] theorem ixN_4 {n : Nat} : ixN n 4 = if 4 < n then some 4 else none := by
  unfold ixN
  rw [if_pos (by decide)]
  by_cases h : 4 < n
  · rw [if_pos h, if_pos (by omega)]
    rfl
  · rw [if_neg h, if_neg (by omega)]
@[simp] theorem ixN_5 {n : Nat} : ixN n 5 = if 5 < n then some 5 else none := by
  unfold ixN
  rw [if_pos (by decide)]
  by_cases h : 5 < n
  · rw [if_pos h, if_pos (by omega)]
    rfl
  · rw [if_neg h, if_neg (by omega)]
@[simp] theorem atI_neg1 {α : Type} {xs : List α} : atI xs (-1) = xs[xs.length - 1]? := by
  unfold atI ixN
  rw [if_neg (by decide)]
  by_cases h : xs = []
  · subst h
    rfl
  · have : 1 ≤ xs.length := by
      cases xs with
      | nil => exact absurd rfl h
      | cons _ _ => simp
    rw [if_pos (by omega)]
    have e : (-1 + (xs.length : Int)).toNat = xs.length - 1 := by omega
    rw [e]
    rfl
/-- two factors of less than 2 ^ a, 2 ^ b -/
theorem cmul_of {i j : Int} (a b : Nat) (ha : i.natAbs < 2 ^ a) (hb : j.natAbs < 2 ^ b) (h0 : 0 < a) (h1 : 0 < b) (h : a + b ≤ 1000000) : CMulW i j := wide_mul ha hb h0 h1 h
theorem kitB_self (s : String) : kitB s s = some true := by
  unfold kitB
  rw [if_pos (by simp)]
end

/-! ### loops -/
theorem forGo_nil {chk : Sto → Prop} {g : WG} {b : WS} {R : DEnds} {τ : DEnv} {S : Sto} : forGo chk g b R [] τ S = (chk S ∧ R.nx τ S) := rfl
theorem forGo_cons {chk : Sto → Prop} {g : WG} {b : WS} {R : DEnds} {d : D} {r : List D} {τ : DEnv} {S : Sto} : forGo chk g b R (d :: r) τ S =
  (chk S ∧ g d τ S fun τ1 S1 => b { nx := fun τ' S' => forGo chk g b R r τ' S', ct := fun τ' S' => forGo chk g b R r τ' S', bk := R.nx, rt := R.rt } τ1 S1) := rfl
/-- a for by an invariant over the items that are left; N: what the turn is to reach -/
theorem forGo_ind {chk : Sto → Prop} {g : WG} {b : WS} {R : DEnds} (I : List D → DEnv → Sto → Prop) (h0 : ∀ τ S, I [] τ S → chk S ∧ R.nx τ S)
    (hs : ∀ d r τ S (N : DEnv → Sto → Prop), I (d :: r) τ S → (∀ τ' S', I r τ' S' → N τ' S') → chk S ∧ g d τ S fun τ1 S1 => b { nx := N, ct := N, bk := R.nx, rt := R.rt } τ1 S1) :
    ∀ (items : List D) (τ : DEnv) (S : Sto), I items τ S → forGo chk g b R items τ S
  | [], τ, S, h => h0 τ S h
  | d :: r, τ, S, h => hs d r τ S _ h fun τ' S' h' => forGo_ind I h0 hs r τ' S' h'
theorem forGo_run {chk : Sto → Prop} {g : WG} {b : WS} {R : DEnds} {items : List D} {τ : DEnv} {S : Sto} (I : List D → DEnv → Sto → Prop) (hi : I items τ S) (h0 : ∀ τ S, I [] τ S → chk S ∧ R.nx τ S)
    (hs : ∀ d r τ S (N : DEnv → Sto → Prop), I (d :: r) τ S → (∀ τ' S', I r τ' S' → N τ' S') → chk S ∧ g d τ S fun τ1 S1 => b { nx := N, ct := N, bk := R.nx, rt := R.rt } τ1 S1) :
    forGo chk g b R items τ S := forGo_ind I h0 hs items τ S hi
/-- a comprehension by an invariant over the items left, what is made so far, the store -/
theorem lcGo_run {chk : Sto → Prop} {g : WG} {t : WT} {e : WE} {τ : DEnv} {R : DQ} {items acc : List D} {S : Sto} (I : List D → List D → Sto → Prop) (hi : I items acc S) (h0 : ∀ acc S, I [] acc S → chk S ∧ R (.loc S.length) (S ++ [.lst acc]))
    (hs : ∀ d r acc S (N : List D → Sto → Prop), I (d :: r) acc S → (∀ acc' S', I r acc' S' → N acc' S') → chk S ∧ g d τ S fun τ1 S1 => t τ1 S1 fun b S2 => if b = true then e τ1 S2 fun y S3 => acc.length < sizeLine ∧ N (acc ++ [y]) S3 else N acc S2) :
    lcGo chk g t e τ R items acc S := by
  induction items generalizing acc S with
  | nil => exact h0 acc S hi
  | cons d r ih => exact hs d r acc S _ hi fun acc' S' h' => ih h'

/-! ## stores that grow -/
/-- what stood stands -/
def Le (S S' : Sto) : Prop := ∀ (j : Nat) (o : O), S[j]? = some o → S'[j]? = some o
theorem Le.refl (S : Sto) : Le S S := fun _ _ h => h
theorem Le.trans {S S1 S2 : Sto} (a : Le S S1) (b : Le S1 S2) : Le S S2 := fun j o h => b j o (a j o h)
theorem Le.app (S T : Sto) : Le S (S ++ T) := fun j o h => by
  rw [List.getElem?_append_left (List.getElem?_eq_some_iff.mp h).1]
  exact h
theorem Le.len {S S' : Sto} (h : Le S S') : S.length ≤ S'.length := by
  cases hn : S.length with
  | zero => omega
  | succ n =>
    have : S[n]? = some S[n] := List.getElem?_eq_getElem (by omega)
    have := (List.getElem?_eq_some_iff.mp (h n _ this)).1
    omega
/-- all but the object at l -/
def LeX (l : Nat) (S S' : Sto) : Prop := S.length ≤ S'.length ∧ ∀ (j : Nat) (o : O), j ≠ l → S[j]? = some o → S'[j]? = some o
theorem LeX.refl (l : Nat) (S : Sto) : LeX l S S := ⟨Nat.le_refl _, fun _ _ _ h => h⟩
theorem LeX.trans {l : Nat} {S S1 S2 : Sto} (a : LeX l S S1) (b : LeX l S1 S2) : LeX l S S2 := ⟨Nat.le_trans a.1 b.1, fun j o n h => b.2 j o n (a.2 j o n h)⟩
theorem Le.x {S S' : Sto} (l : Nat) (h : Le S S') : LeX l S S' := ⟨h.len, fun j o _ e => h j o e⟩
theorem LeX.set {l : Nat} {S : Sto} {o : O} : LeX l S (S.set l o) := ⟨by simp, fun j o' n h => by
  rw [List.getElem?_set_ne (Ne.symm n)]
  exact h⟩
theorem get_set {S : Sto} {l : Nat} {o o' : O} (h : S[l]? = some o) : (S.set l o')[l]? = some o' := by
  rw [List.getElem?_set_self (List.getElem?_eq_some_iff.mp h).1]
theorem get_app {S T : Sto} {l : Nat} {o : O} (h : S[l]? = some o) : (S ++ T)[l]? = some o := Le.app S T l o h
@[simp] theorem get_new {S : Sto} {o : O} : (S ++ [o])[S.length]? = some o := List.getElem?_concat_length ..
theorem lt_of_get {S : Sto} {l : Nat} {o : O} (h : S[l]? = some o) : l < S.length := (List.getElem?_eq_some_iff.mp h).1
end Dl

namespace Dl
open PySem L2

/-! ## == of plain values -/
noncomputable instance : DecidableEq D := fun a b => Classical.propDecidable _
mutual
/-- whole numbers, texts, None and tuples of these, at most so deep -/
def plainD : Nat → D → Bool
  | _, .non => true
  | _, .int _ => true
  | _, .str _ => true
  | 0, .tup ds => false
  | n + 1, .tup ds => decide (ds.length ≤ 100000) && plainsD n ds
  | _, .bl _ => false
  | _, .fls _ => false
  | _, .loc _ => false
def plainsD : Nat → List D → Bool
  | _, [] => true
  | n, d :: ds => plainD n d && plainsD n ds
end
theorem plainD_tup {n : Nat} {ds : List D} : plainD (n + 1) (.tup ds) = true ↔ ds.length ≤ 100000 ∧ plainsD n ds = true := by simp [plainD]
mutual
theorem key_plain : ∀ (n : Nat) (d : D), plainD n d = true → ∃ k, keyOf d = some k ∧ k.depth ≤ n
  | n, .non, _ => ⟨.none, rfl, Nat.zero_le _⟩
  | n, .int i, _ => ⟨.num i, rfl, Nat.zero_le _⟩
  | n, .str x, _ => ⟨.text x, rfl, Nat.zero_le _⟩
  | 0, .tup ds, h => by simp [plainD] at h
  | n + 1, .tup ds, h => by
    obtain ⟨ks, h1, h2⟩ := keys_plain n ds (plainD_tup.mp h).2
    refine ⟨.tup ks, ?_, ?_⟩
    · show (keyOf.keysOf ds).map NestedKey.tup = _
      rw [h1]
      rfl
    · simp only [NestedKey.depth]
      omega
  | n, .bl _, h => by simp [plainD] at h
  | n, .fls _, h => by simp [plainD] at h
  | n, .loc _, h => by simp [plainD] at h
theorem keys_plain : ∀ (n : Nat) (ds : List D), plainsD n ds = true → ∃ ks, keyOf.keysOf ds = some ks ∧ NestedKey.depthAll ks ≤ n
  | n, [], _ => ⟨[], rfl, Nat.zero_le _⟩
  | n, d :: ds, h => by
    simp only [plainsD, Bool.and_eq_true] at h
    obtain ⟨k, h1, h2⟩ := key_plain n d h.1
    obtain ⟨ks, h3, h4⟩ := keys_plain n ds h.2
    refine ⟨k :: ks, ?_, ?_⟩
    · unfold keyOf.keysOf
      rw [h1, h3]
    · simp only [NestedKey.depthAll]
      omega
end
mutual
theorem key_inj : ∀ (n : Nat) (d c : D) (k : NestedKey), plainD n d = true → plainD n c = true → keyOf d = some k → keyOf c = some k → d = c
  | n, d, c, k, hd, hc, h1, h2 => by
    cases d with
    | non =>
      cases (show some NestedKey.none = some k from h1)
      cases c with
      | non => rfl
      | int _ => cases (show some (NestedKey.num _) = some NestedKey.none from h2)
      | str _ => cases (show some (NestedKey.text _) = some NestedKey.none from h2)
      | tup cs =>
        have h3 : (keyOf.keysOf cs).map NestedKey.tup = some NestedKey.none := h2
        cases e : keyOf.keysOf cs with
        | none => rw [e] at h3; cases h3
        | some ks => rw [e] at h3; cases h3
      | bl _ => simp [plainD] at hc
      | fls _ => simp [plainD] at hc
      | loc _ => simp [plainD] at hc
    | int i =>
      cases (show some (NestedKey.num i) = some k from h1)
      cases c with
      | non => cases (show some NestedKey.none = some (NestedKey.num i) from h2)
      | int j =>
        have := Option.some.inj (show some (NestedKey.num j) = some (NestedKey.num i) from h2)
        cases this
        rfl
      | str _ => cases (show some (NestedKey.text _) = some (NestedKey.num i) from h2)
      | tup cs =>
        have h3 : (keyOf.keysOf cs).map NestedKey.tup = some (NestedKey.num i) := h2
        cases e : keyOf.keysOf cs with
        | none => rw [e] at h3; cases h3
        | some ks => rw [e] at h3; cases h3
      | bl _ => simp [plainD] at hc
      | fls _ => simp [plainD] at hc
      | loc _ => simp [plainD] at hc
    | str x =>
      cases (show some (NestedKey.text x) = some k from h1)
      cases c with
      | non => cases (show some NestedKey.none = some (NestedKey.text x) from h2)
      | int j => cases (show some (NestedKey.num j) = some (NestedKey.text x) from h2)
      | str y =>
        have := Option.some.inj (show some (NestedKey.text y) = some (NestedKey.text x) from h2)
        cases this
        rfl
      | tup cs =>
        have h3 : (keyOf.keysOf cs).map NestedKey.tup = some (NestedKey.text x) := h2
        cases e : keyOf.keysOf cs with
        | none => rw [e] at h3; cases h3
        | some ks => rw [e] at h3; cases h3
      | bl _ => simp [plainD] at hc
      | fls _ => simp [plainD] at hc
      | loc _ => simp [plainD] at hc
    | tup ds =>
      have h3 : (keyOf.keysOf ds).map NestedKey.tup = some k := h1
      cases e : keyOf.keysOf ds with
      | none => rw [e] at h3; cases h3
      | some ks =>
        rw [e] at h3
        cases h3
        cases c with
        | non => cases (show some NestedKey.none = some (NestedKey.tup ks) from h2)
        | int j => cases (show some (NestedKey.num j) = some (NestedKey.tup ks) from h2)
        | str y => cases (show some (NestedKey.text y) = some (NestedKey.tup ks) from h2)
        | tup cs =>
          have h4 : (keyOf.keysOf cs).map NestedKey.tup = some (NestedKey.tup ks) := h2
          cases e2 : keyOf.keysOf cs with
          | none => rw [e2] at h4; cases h4
          | some ks' =>
            rw [e2] at h4
            cases h4
            cases n with
            | zero => simp [plainD] at hd
            | succ n =>
              rw [keys_inj n ds cs ks (plainD_tup.mp hd).2 (plainD_tup.mp hc).2 e e2]
        | bl _ => simp [plainD] at hc
        | fls _ => simp [plainD] at hc
        | loc _ => simp [plainD] at hc
    | bl _ => simp [plainD] at hd
    | fls _ => simp [plainD] at hd
    | loc _ => simp [plainD] at hd
theorem keys_inj : ∀ (n : Nat) (ds cs : List D) (ks : List NestedKey), plainsD n ds = true → plainsD n cs = true → keyOf.keysOf ds = some ks → keyOf.keysOf cs = some ks → ds = cs
  | n, ds, cs, ks, hd, hc, h1, h2 => by
    cases ds with
    | nil =>
      cases (show some [] = some ks from h1)
      cases cs with
      | nil => rfl
      | cons c cs =>
        unfold keyOf.keysOf at h2
        cases e1 : keyOf c with
        | none => rw [e1] at h2; cases h2
        | some k =>
          cases e2 : keyOf.keysOf cs with
          | none => rw [e1, e2] at h2; cases h2
          | some ks => rw [e1, e2] at h2; cases h2
    | cons d ds =>
      unfold keyOf.keysOf at h1
      cases e1 : keyOf d with
      | none => rw [e1] at h1; cases h1
      | some k =>
        cases e2 : keyOf.keysOf ds with
        | none => rw [e1, e2] at h1; cases h1
        | some ks1 =>
          rw [e1, e2] at h1
          cases h1
          cases cs with
          | nil => cases (show some [] = some (k :: ks1) from h2)
          | cons c cs =>
            unfold keyOf.keysOf at h2
            cases e3 : keyOf c with
            | none => rw [e3] at h2; cases h2
            | some k' =>
              cases e4 : keyOf.keysOf cs with
              | none => rw [e3, e4] at h2; cases h2
              | some ks' =>
                rw [e3, e4] at h2
                cases h2
                simp only [plainsD, Bool.and_eq_true] at hd hc
                rw [key_inj n d c k hd.1 hc.1 e1 e3, keys_inj n ds cs ks1 hd.2 hc.2 e2 e4]
end
theorem keyOf_some_none {d : D} : plainD 100 d = true → keyOf d ≠ none := fun h e => by
  obtain ⟨k, h1, _⟩ := key_plain 100 d h
  rw [e] at h1
  cases h1
theorem eqD_q {S : Sto} {d c : D} (h : (∀ i, d ≠ .loc i) ∨ ∀ i, c ≠ .loc i) : eqD S d c = eqQ S d c := by
  unfold eqD
  split
  · rename_i i j
    rcases h with h | h
    · exact absurd rfl (h i)
    · exact absurd rfl (h j)
  · rfl
theorem plain_loc {n : Nat} {d : D} (h : plainD n d = true) : ∀ i, d ≠ .loc i := fun i e => by
  rw [e] at h
  simp [plainD] at h
/-- == of plain values is being the same -/
theorem eqD_plain {S : Sto} {d c : D} (hd : plainD 100 d = true) (hc : plainD 100 c = true) : eqD S d c = some (decide (d = c)) := by
  obtain ⟨k1, h1, h2⟩ := key_plain 100 d hd
  obtain ⟨k2, h3, h4⟩ := key_plain 100 c hc
  rw [eqD_q (.inl (plain_loc hd))]
  unfold eqQ
  simp only [h1, h3]
  rw [if_pos (by omega)]
  congr 1
  cases e : NestedKey.beq k1 k2 with
  | true =>
    have e2 := NestedKey.eq_of_beq k1 k2 e
    subst e2
    exact (decide_eq_true (key_inj 100 d c k1 hd hc h1 h3)).symm
  | false =>
    refine (decide_eq_false fun z => ?_).symm
    subst z
    rw [h1] at h3
    cases h3
    rw [NestedKey.beq_self] at e
    cases e
theorem beqAll_plain {n : Nat} {ds cs : List D} {k1 k2 : List NestedKey} (hd : plainsD n ds = true) (hc : plainsD n cs = true) (h1 : keyOf.keysOf ds = some k1) (h2 : keyOf.keysOf cs = some k2) : NestedKey.beqAll k1 k2 = decide (ds = cs) := by
  cases e : NestedKey.beqAll k1 k2 with
  | true =>
    have e2 := NestedKey.eq_of_beqAll k1 k2 e
    subst e2
    exact (decide_eq_true (keys_inj n ds cs k1 hd hc h1 h2)).symm
  | false =>
    refine (decide_eq_false fun z => ?_).symm
    subst z
    rw [h1] at h2
    cases h2
    rw [NestedKey.beqAll_self] at e
    cases e
theorem depth_plain {ds : List D} {ks : List NestedKey} (hd : plainsD 100 ds = true) (h : keyOf.keysOf ds = some ks) : NestedKey.depthAll ks ≤ 100 := by
  obtain ⟨ks', h1, h2⟩ := keys_plain 100 ds hd
  rw [h] at h1
  cases h1
  exact h2
theorem eqD_lsts {S : Sto} {i j : Nat} {xs ys : List D} (hi : S[i]? = some (.lst xs)) (hj : S[j]? = some (.lst ys)) (hx : plainsD 100 xs = true) (hy : plainsD 100 ys = true) : eqD S (.loc i) (.loc j) = some (decide (xs = ys)) := by
  obtain ⟨k1, h1, _⟩ := keys_plain 100 xs hx
  obtain ⟨k2, h2, _⟩ := keys_plain 100 ys hy
  have e0 : eqD S (.loc i) (.loc j) = eqQ S (.loc i) (.loc j) := by simp [eqD, hi, hj]
  have d1 := depth_plain hx h1
  have kl : ∀ z, keyOf (.loc z) = none := fun _ => rfl
  rw [e0]
  unfold eqQ
  simp only [kl, lstD, hi, hj, h1, h2]
  rw [if_pos (by omega), beqAll_plain hx hy h1 h2]
@[simp] theorem eqD_int {S : Sto} {m n : Int} : eqD S (.int m) (.int n) = some (decide (m = n)) := by
  rw [eqD_plain (by simp [plainD]) (by simp [plainD])]
  simp
@[simp] theorem eqD_str {S : Sto} {x y : Str} : eqD S (.str x) (.str y) = some (decide (x = y)) := by
  rw [eqD_plain (by simp [plainD]) (by simp [plainD])]
  simp
@[simp] theorem eqD_int_str {S : Sto} {m : Int} {y : Str} : eqD S (.int m) (.str y) = some false := by
  rw [eqD_plain (by simp [plainD]) (by simp [plainD])]
  simp
@[simp] theorem eqD_str_int {S : Sto} {m : Int} {y : Str} : eqD S (.str y) (.int m) = some false := by
  rw [eqD_plain (by simp [plainD]) (by simp [plainD])]
  simp
@[simp] theorem eqD_bl {S : Sto} {a b : Bool} : eqD S (.bl a) (.bl b) = some (decide (a = b)) := by
  cases a <;> cases b <;> rfl
mutual
theorem plain_mono : ∀ {n m : Nat} (d : D), n ≤ m → plainD n d = true → plainD m d = true
  | n, m, .non, _, _ => by simp [plainD]
  | n, m, .int _, _, _ => by simp [plainD]
  | n, m, .str _, _, _ => by simp [plainD]
  | 0, m, .tup ds, _, h => by simp [plainD] at h
  | n + 1, 0, .tup ds, hm, _ => by omega
  | n + 1, m + 1, .tup ds, hm, h => by
    exact plainD_tup.mpr ⟨(plainD_tup.mp h).1, plains_mono ds (by omega) (plainD_tup.mp h).2⟩
  | n, m, .bl _, _, h => by simp [plainD] at h
  | n, m, .fls _, _, h => by simp [plainD] at h
  | n, m, .loc _, _, h => by simp [plainD] at h
theorem plains_mono : ∀ {n m : Nat} (ds : List D), n ≤ m → plainsD n ds = true → plainsD m ds = true
  | n, m, [], _, _ => by simp [plainsD]
  | n, m, d :: ds, hm, h => by
    simp only [plainsD, Bool.and_eq_true] at h ⊢
    exact ⟨plain_mono d hm h.1, plains_mono ds hm h.2⟩
end
theorem plains_mem {n : Nat} : ∀ {ds : List D} {d : D}, plainsD n ds = true → d ∈ ds → plainD n d = true
  | [], _, _, h => by cases h
  | c :: cs, d, hp, h => by
    simp only [plainsD, Bool.and_eq_true] at hp
    rcases List.mem_cons.mp h with e | h
    · rw [e]; exact hp.1
    · exact plains_mem hp.2 h
theorem plains_of {n : Nat} : ∀ {ds : List D}, (∀ d ∈ ds, plainD n d = true) → plainsD n ds = true
  | [], _ => by simp [plainsD]
  | c :: cs, h => by
    simp only [plainsD, Bool.and_eq_true]
    exact ⟨h c List.mem_cons_self, plains_of fun d hd => h d (List.mem_cons_of_mem _ hd)⟩

theorem blsD_map : ∀ bs : List Bool, blsD (bs.map D.bl) = some bs
  | [] => rfl
  | b :: bs => by
    simp [blsD, blsD_map bs]
theorem zipD_nil {us ws : List D} (h : [] = zipD us ws) (hl : us.length = ws.length) : us = [] ∧ ws = [] := by
  cases us with
  | nil => cases ws with
    | nil => exact ⟨rfl, rfl⟩
    | cons _ _ => simp at hl
  | cons _ _ => cases ws with
    | nil => simp at hl
    | cons _ _ => simp [zipD] at h
theorem zipD_cons {d : D} {r us ws : List D} (h : d :: r = zipD us ws) : ∃ u us' w ws', us = u :: us' ∧ ws = w :: ws' ∧ d = .tup [u, w] ∧ r = zipD us' ws' := by
  cases us with
  | nil => simp [zipD] at h
  | cons u us => cases ws with
    | nil => simp [zipD] at h
    | cons w ws =>
      simp [zipD] at h
      exact ⟨u, us, w, ws, rfl, rfl, h.1, h.2⟩
/-! ## isinstance -/
@[simp] theorem kitB_NoneType_bool : kitB "NoneType" "bool" = some false := by decide +kernel
@[simp] theorem kitB_NoneType_int : kitB "NoneType" "int" = some false := by decide +kernel
@[simp] theorem kitB_NoneType_str : kitB "NoneType" "str" = some false := by decide +kernel
@[simp] theorem kitB_NoneType_tuple : kitB "NoneType" "tuple" = some false := by decide +kernel
@[simp] theorem kitB_NoneType_list : kitB "NoneType" "list" = some false := by decide +kernel
@[simp] theorem kitB_NoneType_dict : kitB "NoneType" "dict" = some false := by decide +kernel
@[simp] theorem kitB_bool_bool : kitB "bool" "bool" = some true := by decide +kernel
@[simp] theorem kitB_bool_int : kitB "bool" "int" = some true := by decide +kernel
@[simp] theorem kitB_bool_str : kitB "bool" "str" = some false := by decide +kernel
@[simp] theorem kitB_bool_tuple : kitB "bool" "tuple" = some false := by decide +kernel
@[simp] theorem kitB_bool_list : kitB "bool" "list" = some false := by decide +kernel
@[simp] theorem kitB_bool_dict : kitB "bool" "dict" = some false := by decide +kernel
@[simp] theorem kitB_int_bool : kitB "int" "bool" = some false := by decide +kernel
@[simp] theorem kitB_int_int : kitB "int" "int" = some true := by decide +kernel
@[simp] theorem kitB_int_str : kitB "int" "str" = some false := by decide +kernel
@[simp] theorem kitB_int_tuple : kitB "int" "tuple" = some false := by decide +kernel
@[simp] theorem kitB_int_list : kitB "int" "list" = some false := by decide +kernel
@[simp] theorem kitB_int_dict : kitB "int" "dict" = some false := by decide +kernel
@[simp] theorem kitB_str_bool : kitB "str" "bool" = some false := by decide +kernel
@[simp] theorem kitB_str_int : kitB "str" "int" = some false := by decide +kernel
@[simp] theorem kitB_str_str : kitB "str" "str" = some true := by decide +kernel
@[simp] theorem kitB_str_tuple : kitB "str" "tuple" = some false := by decide +kernel
@[simp] theorem kitB_str_list : kitB "str" "list" = some false := by decide +kernel
@[simp] theorem kitB_str_dict : kitB "str" "dict" = some false := by decide +kernel
@[simp] theorem kitB_tuple_bool : kitB "tuple" "bool" = some false := by decide +kernel
@[simp] theorem kitB_tuple_int : kitB "tuple" "int" = some false := by decide +kernel
@[simp] theorem kitB_tuple_str : kitB "tuple" "str" = some false := by decide +kernel
@[simp] theorem kitB_tuple_tuple : kitB "tuple" "tuple" = some true := by decide +kernel
@[simp] theorem kitB_tuple_list : kitB "tuple" "list" = some false := by decide +kernel
@[simp] theorem kitB_tuple_dict : kitB "tuple" "dict" = some false := by decide +kernel
@[simp] theorem kitB_list_bool : kitB "list" "bool" = some false := by decide +kernel
@[simp] theorem kitB_list_int : kitB "list" "int" = some false := by decide +kernel
@[simp] theorem kitB_list_str : kitB "list" "str" = some false := by decide +kernel
@[simp] theorem kitB_list_tuple : kitB "list" "tuple" = some false := by decide +kernel
@[simp] theorem kitB_list_list : kitB "list" "list" = some true := by decide +kernel
@[simp] theorem kitB_list_dict : kitB "list" "dict" = some false := by decide +kernel
@[simp] theorem kitB_dict_bool : kitB "dict" "bool" = some false := by decide +kernel
@[simp] theorem kitB_dict_int : kitB "dict" "int" = some false := by decide +kernel
@[simp] theorem kitB_dict_str : kitB "dict" "str" = some false := by decide +kernel
@[simp] theorem kitB_dict_tuple : kitB "dict" "tuple" = some false := by decide +kernel
@[simp] theorem kitB_dict_list : kitB "dict" "list" = some false := by decide +kernel
@[simp] theorem kitB_dict_dict : kitB "dict" "dict" = some true := by decide +kernel

/-! ## numbers -/
theorem fmod_nn {a b : Int} (hb : 0 < b) : a.fmod b = a % b := Int.fmod_eq_emod_of_nonneg a (by omega)
theorem fmod_bounds (a : Int) {b : Int} (hb : 0 < b) : 0 ≤ a.fmod b ∧ a.fmod b < b := by
  rw [fmod_nn hb]
  exact ⟨Int.emod_nonneg _ (by omega), Int.emod_lt_of_pos _ hb⟩
theorem cdiv_of {i j : Int} (a : Nat) (h : 0 < j) (hb : j.natAbs < 2 ^ a) (h0 : 0 < a) (h9 : a ≤ 9000) : CDivW i j := wide_div h hb h0 h9

theorem atI_mem {α : Type} {xs : List α} {m : Int} (h0 : 0 ≤ m) (h1 : m < (xs.length : Int)) : ∃ y, atI xs m = some y ∧ y ∈ xs := by
  rw [atI_nn h0]
  have h2 : m.toNat < xs.length := by omega
  exact ⟨_, List.getElem?_eq_getElem h2, List.getElem_mem h2⟩
theorem strLen_app (a b : Str) : (a ++ b).length = a.length + b.length := PySem.Str.length_append a b
theorem strLen_one (c : Nat) : (⟨#[c]⟩ : Str).length = 1 := rfl
/-- a sign of a written text -/
theorem sign_at {x : Str} {m : Int} {n : Nat} (hx : x.length = n) (h0 : 0 ≤ m) (h1 : m < (n : Int)) : ∃ c, atI x.cps.toList m = some c ∧ c ∈ x.cps.toList := atI_mem h0 (by
  have : x.cps.toList.length = x.length := by simp [Str.length]
  omega)

/-! ## the laws' rows of digits -/
/-- what a row of digits may be -/
def Lf (a b : Int) : Prop := 0 ≤ a ∧ 0 ≤ b ∧ b < 2147483647
/-- a row of digits stands at l -/
def LAt (l : Nat) (S : Sto) : Prop := ∃ a b, S[l]? = some (.lst [.int a, .int b]) ∧ Lf a b
theorem LAt.set {l : Nat} {S : Sto} {a b : Int} (h : LAt l S) (h2 : Lf a b) : LAt l (S.set l (.lst [.int a, .int b])) := by
  obtain ⟨a', b', e, _⟩ := h
  exact ⟨a, b, get_set e, h2⟩
theorem LAt.le {l : Nat} {S S' : Sto} (h : LAt l S) (x : Le S S') : LAt l S' := by
  obtain ⟨a, b, e, q⟩ := h
  exact ⟨a, b, x _ _ e, q⟩
/-- what may happen while digits are drawn: the row at l is another one, new things stand behind -/
structure Gr (l : Nat) (S S' : Sto) : Prop where
  at_ : LAt l S'
  x : LeX l S S'
theorem Gr.refl {l : Nat} {S : Sto} (h : LAt l S) : Gr l S S := ⟨h, LeX.refl l S⟩
theorem Gr.trans {l : Nat} {S S1 S2 : Sto} (a : Gr l S S1) (b : Gr l S1 S2) : Gr l S S2 := ⟨b.at_, a.x.trans b.x⟩
theorem Gr.le {l : Nat} {S S1 S2 : Sto} (a : Gr l S S1) (b : Le S1 S2) : Gr l S S2 := ⟨a.at_.le b, a.x.trans (b.x l)⟩
theorem Gr.app {l : Nat} {S S1 : Sto} (a : Gr l S S1) (T : Sto) : Gr l S (S1 ++ T) := a.le (Le.app S1 T)
theorem Gr.get {l j : Nat} {S S' : Sto} {o : O} (g : Gr l S S') (h : S[j]? = some o) (n : j ≠ l) : S'[j]? = some o := g.x.2 j o n h
theorem LAt.ne {l j : Nat} {S : Sto} (h : LAt l S) (hj : S.length ≤ j) : j ≠ l := by
  obtain ⟨a, b, e, _⟩ := h
  have := lt_of_get e
  omega
/-- a def that draws: from the row at l, any value of which P holds -/
def Draw (l : Nat) (P : D → Prop) (S : Sto) (R : DQ) : Prop := LAt l S ∧ ∀ d S', P d → Gr l S S' → R d S'
/-- a pure def: the value d, new things may stand behind -/
def Pure (d : D) (S : Sto) (R : DQ) : Prop := ∀ S', Le S S' → R d S'
theorem Pure.here {d : D} {S : Sto} {R : DQ} (h : Pure d S R) : R d S := h S (Le.refl S)
theorem Pure.le {d : D} {S S' : Sto} {R : DQ} (h : Pure d S R) (x : Le S S') : Pure d S' R := fun S2 y => h S2 (x.trans y)
end Dl

namespace Dl
open PySem L2

/-! ## comprehensions, by an invariant of the store -/
inductive All2 {α β : Type} (Q : α → β → Prop) : List α → List β → Prop
  | nil : All2 Q [] []
  | cons {a : α} {b : β} {as : List α} {bs : List β} : Q a b → All2 Q as bs → All2 Q (a :: as) (b :: bs)
section
variable {α β : Type} {Q : α → β → Prop}
theorem All2.length {as : List α} {bs : List β} (h : All2 Q as bs) : as.length = bs.length := by
  induction h with
  | nil => rfl
  | cons _ _ ih => simp [ih]
theorem All2.app {as as' : List α} {bs bs' : List β} (h : All2 Q as bs) (h' : All2 Q as' bs') : All2 Q (as ++ as') (bs ++ bs') := by
  induction h with
  | nil => exact h'
  | cons a _ ih => exact .cons a ih
theorem All2.all {P : β → Prop} (hP : ∀ a b, Q a b → P b) {as : List α} {bs : List β} (h : All2 Q as bs) : ∀ b ∈ bs, P b := by
  induction h with
  | nil => intro b hb; cases hb
  | cons q _ ih =>
    intro b hb
    rcases List.mem_cons.mp hb with e | hb
    · rw [e]; exact hP _ _ q
    · exact ih b hb
theorem All2.map {f : α → β} : ∀ {as : List α} {bs : List β}, All2 (fun a b => b = f a) as bs → bs = as.map f
  | _, _, .nil => rfl
  | _, _, .cons h r => by rw [h, r.map]; rfl
theorem All2.imp {Q' : α → β → Prop} (hQ : ∀ a b, Q a b → Q' a b) {as : List α} {bs : List β} (h : All2 Q as bs) : All2 Q' as bs := by
  induction h with
  | nil => exact .nil
  | cons q _ ih => exact .cons (hQ _ _ q) ih
end
theorem lc_go {chk : Sto → Prop} {g : WG} {e : WE} {τ : DEnv} {R : DQ} {Q : D → D → Prop} {I : Sto → Prop} : ∀ {items acc : List D} {S : Sto}, I S → (∀ S', I S' → chk S') → acc.length + items.length ≤ sizeLine →
    (∀ d S' (N : DQ), d ∈ items → I S' → (∀ y S'', Q d y → I S'' → N y S'') → g d τ S' fun τ1 S1 => e τ1 S1 N) →
    (∀ ys S', I S' → All2 Q items ys → R (.loc S'.length) (S' ++ [.lst (acc ++ ys)])) → lcGo chk g wYes e τ R items acc S
  | [], acc, S, hI, hc, hl, hs, h0 => ⟨hc _ hI, by simpa using h0 [] S hI .nil⟩
  | d :: r, acc, S, hI, hc, hl, hs, h0 => ⟨hc _ hI, by
    simp only [wYes_ap, if_true]
    refine hs d S _ List.mem_cons_self hI fun y S'' q I' => ⟨by simp only [List.length_cons] at hl; omega, ?_⟩
    refine lc_go I' hc (by simp only [List.length_cons, List.length_append, List.length_nil] at hl ⊢; omega) (fun d S' N hd => hs d S' N (List.mem_cons_of_mem _ hd)) fun ys S' I2 a => ?_
    have := h0 (y :: ys) S' I2 (.cons q a)
    simpa using this⟩
/-- [e for g in items], each item's value as Q says -/
theorem lc_map {chk : Sto → Prop} {g : WG} {e : WE} {τ : DEnv} {R : DQ} {items : List D} {S : Sto} (Q : D → D → Prop) (I : Sto → Prop) (hI : I S) (hc : ∀ S', I S' → chk S') (hl : items.length ≤ sizeLine)
    (hs : ∀ d S' (N : DQ), d ∈ items → I S' → (∀ y S'', Q d y → I S'' → N y S'') → g d τ S' fun τ1 S1 => e τ1 S1 N)
    (h0 : ∀ ys S', I S' → All2 Q items ys → R (.loc S'.length) (S' ++ [.lst ys])) : lcGo chk g wYes e τ R items [] S :=
  lc_go hI hc (by simpa using hl) hs (by simpa using h0)
@[simp] theorem rangeD_len {lo : Int} {n : Nat} : (rangeD lo n).length = n := by simp [rangeD]
theorem rangeD_mem {lo : Int} {n : Nat} {d : D} (h : d ∈ rangeD lo n) : ∃ i : Int, d = .int i ∧ lo ≤ i ∧ i < lo + n := by
  simp [rangeD] at h
  obtain ⟨i, h1, h2⟩ := h
  exact ⟨_, h2.symm, by omega, by omega⟩
/-- a for whose turns all keep I of the store and J of the names -/
theorem for_keep {chk : Sto → Prop} {g : WG} {b : WS} {R : DEnds} {items : List D} {τ : DEnv} {S : Sto} (I : DEnv → Sto → Prop) (hi : I τ S) (hc : ∀ τ S', I τ S' → chk S') (h0 : ∀ τ S', I τ S' → R.nx τ S')
    (hs : ∀ d τ S' (N : DEnv → Sto → Prop), d ∈ items → I τ S' → (∀ τ' S'', I τ' S'' → N τ' S'') → g d τ S' fun τ1 S1 => b { nx := N, ct := N, bk := R.nx, rt := R.rt } τ1 S1) :
    forGo chk g b R items τ S := by
  refine forGo_run (fun its τ S' => I τ S' ∧ ∀ d ∈ its, d ∈ items) ⟨hi, fun _ h => h⟩ (fun τ S' h => ⟨hc _ _ h.1, h0 _ _ h.1⟩) fun d r τ S' N h hN => ⟨hc _ _ h.1, hs d τ S' N (h.2 d List.mem_cons_self) h.1 fun τ' S'' h' => hN _ _ ⟨h', fun c hc => h.2 c (List.mem_cons_of_mem _ hc)⟩⟩
/-- a def whose promise never holds -/
theorem fn_never {P : Program} {w : World} {K : PySem.W.Frag} {mg : Str → Option Value} {base : Heap} {x qual : Str} {st : Stmt} {f : Addr} {fd : FuncData} {N ps : List Str} {k : Nat} {sp : DSp} (F : Fun K x qual st f fd) (Sc : FnScope N ps (defScope st))
    (hf : mg x = some (.ref f)) (hb : Binds K fd ps []) (h : ∀ ds S R, ¬ sp ds S R) : FnD P w K mg base (k + 1) x sp :=
  ⟨f, fd, ps, Fun.okG F Sc (fun _ _ _ _ ⟨_, _, _, _, _, _, q, _⟩ => absurd q (h _ _ _)) (fun _ _ _ _ _ _ _ _ _ ⟨_, _, _, _, _, _, q, _⟩ => absurd q (h _ _ _)), hf, F.kp, hb⟩
/-- the law's promise -/
def spLaw (n : Nat) : DSp := fun ds S R => ∃ ns, ds = [scriptD ns] ∧ ns.length ≤ n ∧ ∀ S', R (.bl true) S'
theorem FnD.law {P : Program} {w : World} {K : PySem.W.Frag} {mg : Str → Option Value} {base : Heap} {k : Nat} {x : Str} {sp : DSp} {fa : Addr} {fd : FuncData} {ps : List Str} (h : FnG P w K mg base CX0 k fa fd ps (spD w K mg sp)) : FnG P w K mg base CX0 k fa fd ps (spD w K mg sp) := h
end Dl

namespace Dl
open PySem L2 PyProof.Rows PySem.Spec

/-! ## further built-ins -/
/-- a list of whole numbers -/
def intsD : List D → Option (List Int)
  | [] => some []
  | .int i :: r => (intsD r).map (i :: ·)
  | _ :: _ => none
theorem intsD_map : ∀ ns : List Int, intsD (ns.map D.int) = some ns
  | [] => rfl
  | n :: ns => by simp [intsD, intsD_map ns]
section
variable {X : Cx} {ρ : List Addr} {S : Sto} {H : Hp}
theorem intsD_ok : ∀ {ds : List D} {ns : List Int} {vs : List V}, intsD ds = some ns → VRs X.K ρ H ds vs → vs = ns.map V.int
  | [], ns, vs, e, h => by
    cases e
    exact h.nil_of
  | d :: r, ns, vs, e, h => by
    unfold VRs at h
    obtain ⟨v, vr, rfl, h2, h3⟩ := h
    cases d with
    | int i =>
      simp only [intsD, Option.map_eq_some_iff] at e
      obtain ⟨ms, e1, e2⟩ := e
      subst e2
      rw [intsD_ok e1 h3, h2.int_of]
      rfl
    | _ => cases e
theorem vrs_strs {K : PySem.W.Frag} : ∀ ns : List Str, VRs K ρ H (ns.map D.str) (ns.map V.str)
  | [] => .nil
  | n :: ns => .cons .str (vrs_strs ns)
def dInt1 : DCall := fun ds S R => (∃ i, ds = [.int i] ∧ R (.int i) S) ∨ (∃ b, ds = [.bl b] ∧ R (.int (if b = true then 1 else 0)) S) ∨ ∃ a n, ds = [.str a] ∧ PySem.intText? a = some n ∧ a.length ≤ 640 ∧ R (.int n) S
theorem cd_int1 : CallR X (.type "int") (rCD X dInt1) := CallR.imp (CallR.or call_int1 call_int_str) fun xs H Q ⟨ρ, S, ds, R, W, r, h, p⟩ => by
  rcases h with ⟨i, e1, q⟩ | ⟨b, e1, q⟩ | ⟨a, n, e1, h1, h2, q⟩
  · subst e1
    obtain ⟨v, rfl, rv⟩ := r.one_of
    exact .inl (.inl ⟨i, by rw [rv.int_of], p _ _ q ρ H _ (Ext.refl _ _) W .int⟩)
  · subst e1
    obtain ⟨v, rfl, rv⟩ := r.one_of
    exact .inl (.inr ⟨b, by rw [rv.bl_of], p _ _ q ρ H _ (Ext.refl _ _) W (by cases b <;> exact .int)⟩)
  · subst e1
    obtain ⟨v, rfl, rv⟩ := r.one_of
    exact .inr ⟨a, n, by rw [rv.str_of], h1, h2, p _ _ q ρ H _ (Ext.refl _ _) W .int⟩
def dStr1 : DCall := fun ds S R => (∃ i, ds = [.int i] ∧ i.natAbs.log2 < 1920 ∧ R (.str (toString i)) S) ∨ ∃ a, ds = [.str a] ∧ R (.str a) S
theorem cd_str1 : CallR X (.type "str") (rCD X dStr1) := CallR.imp (CallR.or call_str_int SkE.call_str_str) fun xs H Q ⟨ρ, S, ds, R, W, r, h, p⟩ => by
  rcases h with ⟨i, e1, h1, q⟩ | ⟨a, e1, q⟩
  · subst e1
    obtain ⟨v, rfl, rv⟩ := r.one_of
    exact .inl ⟨i, by rw [rv.int_of], h1, p _ _ q ρ H _ (Ext.refl _ _) W .str⟩
  · subst e1
    obtain ⟨v, rfl, rv⟩ := r.one_of
    exact .inr ⟨a, by rw [rv.str_of], p _ _ q ρ H _ (Ext.refl _ _) W .str⟩
def dAbs : DCall := fun ds S R => ∃ i, ds = [.int i] ∧ R (.int (if i < 0 then -i else i)) S
theorem cd_abs : CallR X (.builtin "abs") (rCD X dAbs) := CallR.imp call_abs fun xs H Q ⟨ρ, S, ds, R, W, r, ⟨i, e1, q⟩, p⟩ => by
  subst e1
  obtain ⟨v, rfl, rv⟩ := r.one_of
  exact ⟨i, by rw [rv.int_of], p _ _ q ρ H _ (Ext.refl _ _) W .int⟩
/-- built-ins over one list of whole numbers -/
def dSum : DCall := fun ds S R => ∃ d pr ns, ds = [d] ∧ lstD S d = some pr ∧ intsD pr.1 = some ns ∧ R (.int ns.sum) S
theorem cd_sum (hc : X.calm = true) : CallR X (.builtin "sum") (rCD X dSum) := CallR.imp (cr_sum hc) fun xs H Q ⟨ρ, S, ds, R, W, r, ⟨d, pr, ns, e1, e2, e3, q⟩, p⟩ => by
  subst e1
  obtain ⟨v, rfl, rv⟩ := r.one_of
  obtain ⟨a, vs, rfl, g1, g2, _⟩ := lstD_ok W rv e2
  rw [intsD_ok e3 g2] at g1
  exact ⟨a, ns, rfl, g1, p _ _ q ρ H _ (Ext.refl _ _) W .int⟩
def dMaxL : DCall := fun ds S R => ∃ d pr ns, ds = [d] ∧ lstD S d = some pr ∧ intsD pr.1 = some ns ∧ 0 < ns.length ∧ ∀ m, m ∈ ns → (∀ y, y ∈ ns → y ≤ m) → R (.int m) S
theorem cd_maxL (hc : X.calm = true) : CallR X (.builtin "max") (rCD X dMaxL) := CallR.imp (cr_max hc) fun xs H Q ⟨ρ, S, ds, R, W, r, ⟨d, pr, ns, e1, e2, e3, e4, q⟩, p⟩ => by
  subst e1
  obtain ⟨v, rfl, rv⟩ := r.one_of
  obtain ⟨a, vs, rfl, g1, g2, _⟩ := lstD_ok W rv e2
  rw [intsD_ok e3 g2] at g1
  exact ⟨a, ns, rfl, g1, e4, fun m h1 h2 => p _ _ (q m h1 h2) ρ H _ (Ext.refl _ _) W .int⟩
def dMinL : DCall := fun ds S R => ∃ d pr ns, ds = [d] ∧ lstD S d = some pr ∧ intsD pr.1 = some ns ∧ 0 < ns.length ∧ ∀ m, m ∈ ns → (∀ y, y ∈ ns → m ≤ y) → R (.int m) S
theorem cd_minL (hc : X.calm = true) : CallR X (.builtin "min") (rCD X dMinL) := CallR.imp (cr_min hc) fun xs H Q ⟨ρ, S, ds, R, W, r, ⟨d, pr, ns, e1, e2, e3, e4, q⟩, p⟩ => by
  subst e1
  obtain ⟨v, rfl, rv⟩ := r.one_of
  obtain ⟨a, vs, rfl, g1, g2, _⟩ := lstD_ok W rv e2
  rw [intsD_ok e3 g2] at g1
  exact ⟨a, ns, rfl, g1, e4, fun m h1 h2 => p _ _ (q m h1 h2) ρ H _ (Ext.refl _ _) W .int⟩
/-- sorted of a list of whole numbers, of texts -/
def dSorted : DCall := fun ds S R => ∃ d pr, ds = [d] ∧ lstD S d = some pr ∧ ((∃ ns, intsD pr.1 = some ns ∧ ∀ ms : List Int, ms.Perm ns → ms.Pairwise (· ≤ ·) → R (.loc S.length) (S ++ [.lst (ms.map D.int)])) ∨
  ∃ xs, strsD pr.1 = some xs ∧ xs.length < 64 ∧ ∀ ys : List Str, ys.Perm xs → sortedS ys = true → R (.loc S.length) (S ++ [.lst (ys.map D.str)]))
theorem cd_sorted : CallR X (.builtin "sorted") (rCD X dSorted) := CallR.imp (CallR.or cr_sortedI cr_sortedS) fun xs H Q ⟨ρ, S, ds, R, W, r, ⟨d, pr, e1, e2, h⟩, p⟩ => by
  subst e1
  obtain ⟨v, rfl, rv⟩ := r.one_of
  obtain ⟨a, vs, rfl, g1, g2, _⟩ := lstD_ok W rv e2
  rcases h with ⟨ns, e3, q⟩ | ⟨zs, e3, h64, q⟩
  · rw [intsD_ok e3 g2] at g1
    exact .inl ⟨a, ns, rfl, g1, fun ms c h1 h2 hc => new_lst W (vrs_ints ms) (q ms h1 h2) p hc⟩
  · rw [strsD_ok e3 g2] at g1
    exact .inr ⟨a, zs, rfl, g1, h64, fun ms c h1 h2 hc => new_lst W (vrs_strs ms) (q ms h1 h2) p hc⟩
def dInsert : DMt := fun d ds S R => ∃ l xs i y, d = .loc l ∧ ds = [.int i, y] ∧ S[l]? = some (.lst xs) ∧ xs.length < sizeLine ∧ 0 ≤ i ∧ i < 2 ^ 63 ∧ R .non (S.set l (.lst (xs.take i.toNat ++ [y] ++ xs.drop i.toNat)))
theorem md_insert : MtR X "list.insert" (rMD X dInsert) := MtR.imp mt_insert fun x us H Q ⟨ρ, S, d, ds, R, W, r1, r2, ⟨l, xs, i, y, e1, e2, g, hz, h0, h1, q⟩, p⟩ => by
  subst e1 e2
  obtain ⟨a, g1, rfl⟩ := r1.loc_of
  obtain ⟨iv, yv, rfl, ri, ry⟩ := r2.two_of
  cases ri.int_of
  obtain ⟨vs, h3, h4⟩ := W.obj l a _ g1 g
  obtain ⟨x1, W1⟩ := write_lst (xs := xs) W g1 h3 (((h4.take i.toNat).snoc ry).append (h4.drop i.toNat))
  exact ⟨a, vs, i, yv, rfl, rfl, h3, by rw [h4.length]; exact hz, h0, h1, p _ _ q ρ _ _ x1 W1 .non⟩
end
section
variable {S : Sto} {R : DQ} {b : Bool} {i : Int} {x : Str} {d c : D} {τ : DEnv} {wk wv we : WE} {wr : WA} {wp : WP} {o : DMt} {l ep : Nat} {kvs : List (D × D)}
@[simp] theorem dInt1_bl : dInt1 [.bl b] S R = R (.int (if b = true then 1 else 0)) S := by simp [dInt1]
@[simp] theorem dInt1_int : dInt1 [.int i] S R = R (.int i) S := by simp [dInt1]
@[simp] theorem dStr1_int : dStr1 [.int i] S R = (i.natAbs.log2 < 1920 ∧ R (.str (toString i)) S) := by simp [dStr1]
@[simp] theorem dStr1_str : dStr1 [.str x] S R = R (.str x) S := by simp [dStr1]
@[simp] theorem dAbs_int : dAbs [.int i] S R = R (.int (if i < 0 then -i else i)) S := by simp [dAbs]
@[simp ↓] theorem wDct0_ap : wDct0 τ S R = R (.loc S.length) (S ++ [.dct 0 []]) := rfl
@[simp ↓] theorem wDct_ap : wDct wp τ S R = wp τ S fun ps S1 => ps.length ≤ 1000 ∧ ∃ z, stoD (0, []) ps = some z ∧ R (.loc S1.length) (S1 ++ [.dct z.1 z.2]) := rfl
@[simp ↓] theorem wpNil_ap {Q : List (D × D) → Sto → Prop} : wpNil τ S Q = Q [] S := rfl
@[simp ↓] theorem wpCons_ap {Q : List (D × D) → Sto → Prop} : wpCons wk wv wp τ S Q = wk τ S fun k S1 => wv τ S1 fun v S2 => wp τ S2 fun ps S3 => Q ((k, v) :: ps) S3 := rfl
@[simp ↓] theorem wMtD0_ap : wMtD0 o we τ S R = we τ S fun d S1 => isDct S1 d ∧ o d [] S1 R := rfl
@[simp ↓] theorem wMtD_ap : wMtD o we wr τ S R = we τ S fun d S1 => isDct S1 d ∧ wr τ S1 fun ds S2 => o d ds S2 R := rfl
theorem dGetM_1 (h : S[l]? = some (.dct ep kvs)) : dGetM (.loc l) [d] S R = ∃ k, keyD d = some k ∧ R ((lkD kvs k).getD .non) S := by simp [dGetM, h]
theorem dGetM_2 (h : S[l]? = some (.dct ep kvs)) : dGetM (.loc l) [d, c] S R = ∃ k, keyD d = some k ∧ R ((lkD kvs k).getD c) S := by simp [dGetM, h]
theorem dSetdef_2 (h : S[l]? = some (.dct ep kvs)) : dSetdef (.loc l) [d, c] S R = ∃ k, keyD d = some k ∧ kvs.length < sizeLine ∧ eitherD (lkD kvs k) (fun v => R v S) (R c (S.set l (.dct (ep + 1) (kvs ++ [(d, c)])))) := by simp [dSetdef, h]
end
/-! ## dicts with plain keys -/
/-- what stands at a key -/
noncomputable def getP (kvs : List (D × D)) (d : D) : Option D := (kvs.find? fun p => decide (p.1 = d)).map (·.2)
noncomputable def putP (kvs : List (D × D)) (d v : D) : List (D × D) := if (getP kvs d).isSome then kvs.map fun p => if p.1 = d then (p.1, v) else p else kvs ++ [(d, v)]
noncomputable def epP (ep : Nat) (kvs : List (D × D)) (d : D) : Nat := if (getP kvs d).isSome then ep else ep + 1
def plainK (kvs : List (D × D)) : Prop := ∀ p ∈ kvs, plainD 8 p.1 = true
theorem keyD_plain {d : D} (h : plainD 8 d = true) : ∃ k, keyD d = some k ∧ keyOf d = some k := by
  obtain ⟨k, h1, h2⟩ := key_plain 8 d h
  exact ⟨k, by simp [keyD, h1, h2], h1⟩
theorem key_iff {d c : D} {k : NestedKey} (hd : plainD 8 d = true) (hc : plainD 8 c = true) (h : keyOf d = some k) : keyOf c = some k ↔ c = d := by
  refine ⟨fun e => key_inj 8 c d k hc hd e h, fun e => ?_⟩
  rw [e]
  exact h
theorem find_congr {α : Type} {f g : α → Bool} : ∀ {xs : List α}, (∀ x ∈ xs, f x = g x) → xs.find? f = xs.find? g
  | [], _ => rfl
  | x :: xs, h => by
    rw [List.find?_cons, List.find?_cons, h x List.mem_cons_self, find_congr fun y hy => h y (List.mem_cons_of_mem _ hy)]
theorem lk_plain {kvs : List (D × D)} {d : D} {k : NestedKey} (hk : plainK kvs) (hd : plainD 8 d = true) (e : keyOf d = some k) : lkD kvs k = getP kvs d := by
  unfold lkD getP
  rw [find_congr]
  intro p hp
  have := key_iff hd (hk p hp) e
  simp [this]
theorem put_plain {kvs : List (D × D)} {d v : D} {k : NestedKey} (hk : plainK kvs) (hd : plainD 8 d = true) (e : keyOf d = some k) : putD kvs k d v = putP kvs d v := by
  unfold putD putP
  rw [lk_plain hk hd e]
  have : (kvs.map fun p => if keyOf p.1 = some k then (p.1, v) else p) = kvs.map fun p => if p.1 = d then (p.1, v) else p := by
    refine List.map_congr_left fun p hp => ?_
    have := key_iff hd (hk p hp) e
    simp [this]
  rw [this]
theorem ep_plain {kvs : List (D × D)} {d : D} {k : NestedKey} {ep : Nat} (hk : plainK kvs) (hd : plainD 8 d = true) (e : keyOf d = some k) : epD ep kvs k = epP ep kvs d := by
  unfold epD epP
  rw [lk_plain hk hd e]
section
variable {S : Sto} {R : DQ} {l ep : Nat} {kvs : List (D × D)} {d c : D}
theorem dIx_P (h : S[l]? = some (.dct ep kvs)) (hk : plainK kvs) (hd : plainD 8 d = true) : dIx (.loc l) d S R = ∃ v, getP kvs d = some v ∧ R v S := by
  obtain ⟨k, h1, h2⟩ := keyD_plain hd
  rw [dIx_dct h, ← lk_plain hk hd h2]
  simp [h1]
theorem dGet1_P (h : S[l]? = some (.dct ep kvs)) (hk : plainK kvs) (hd : plainD 8 d = true) : dGetM (.loc l) [d] S R = R ((getP kvs d).getD .non) S := by
  obtain ⟨k, h1, h2⟩ := keyD_plain hd
  rw [dGetM_1 h, ← lk_plain hk hd h2]
  simp [h1]
theorem dGet2_P (h : S[l]? = some (.dct ep kvs)) (hk : plainK kvs) (hd : plainD 8 d = true) : dGetM (.loc l) [d, c] S R = R ((getP kvs d).getD c) S := by
  obtain ⟨k, h1, h2⟩ := keyD_plain hd
  rw [dGetM_2 h, ← lk_plain hk hd h2]
  simp [h1]
theorem dSet_P {Rs : Sto → Prop} (h : S[l]? = some (.dct ep kvs)) (hk : plainK kvs) (hd : plainD 8 d = true) : dSet (.loc l) d c S Rs = (kvs.length < sizeLine ∧ Rs (S.set l (.dct (epP ep kvs d) (putP kvs d c)))) := by
  obtain ⟨k, h1, h2⟩ := keyD_plain hd
  rw [dSet_dct h, ← put_plain hk hd h2, ← ep_plain hk hd h2]
  simp [h1]
theorem dIn_P (h : S[l]? = some (.dct ep kvs)) (hk : plainK kvs) (hd : plainD 8 d = true) : dIn d (.loc l) S R = R (.bl (getP kvs d).isSome) S := by
  obtain ⟨k, h1, h2⟩ := keyD_plain hd
  rw [← lk_plain hk hd h2]
  simp [dIn, opOr, dInB, dInQ, dInS, dInD, inD, seqD, h, h1]
theorem dNotIn_P (h : S[l]? = some (.dct ep kvs)) (hk : plainK kvs) (hd : plainD 8 d = true) : dNotIn d (.loc l) S R = R (.bl (!(getP kvs d).isSome)) S := by
  obtain ⟨k, h1, h2⟩ := keyD_plain hd
  rw [← lk_plain hk hd h2]
  simp [dNotIn, opOr, dNotInB, dNotInQ, dNotInS, dNotInD, inD, seqD, h, h1]
theorem dSetdef_P (h : S[l]? = some (.dct ep kvs)) (hk : plainK kvs) (hd : plainD 8 d = true) : dSetdef (.loc l) [d, c] S R = (kvs.length < sizeLine ∧ eitherD (getP kvs d) (fun v => R v S) (R c (S.set l (.dct (ep + 1) (kvs ++ [(d, c)]))))) := by
  obtain ⟨k, h1, h2⟩ := keyD_plain hd
  rw [dSetdef_2 h, ← lk_plain hk hd h2]
  simp [h1]
end

/-! ## comprehensions over what a list of things of one's own is read as -/
theorem lc_over_go {α : Type} {chk : Sto → Prop} {g : WG} {e : WE} {τ : DEnv} {R : DQ} {I : Sto → Prop} {gd h : α → D} : ∀ {as : List α} {acc : List D} {S : Sto}, I S → (∀ S', I S' → chk S') → acc.length + as.length ≤ sizeLine →
    (∀ a S' (N : DQ), a ∈ as → I S' → (∀ S'', I S'' → N (h a) S'') → g (gd a) τ S' fun τ1 S1 => e τ1 S1 N) → (∀ S', I S' → R (.loc S'.length) (S' ++ [.lst (acc ++ as.map h)])) → lcGo chk g wYes e τ R (as.map gd) acc S
  | [], acc, S, hI, hc, hl, hs, h0 => ⟨hc _ hI, by simpa using h0 S hI⟩
  | d :: r, acc, S, hI, hc, hl, hs, h0 => ⟨hc _ hI, by
    simp only [wYes_ap, if_true]
    refine hs d S _ List.mem_cons_self hI fun S'' I' => ⟨by simp only [List.length_cons] at hl; omega, ?_⟩
    refine lc_over_go I' hc (by simp only [List.length_cons, List.length_append, List.length_nil] at hl ⊢; omega) (fun d S' N hd => hs d S' N (List.mem_cons_of_mem _ hd)) fun S' I2 => ?_
    have := h0 S' I2
    simpa using this⟩
theorem lc_over {α : Type} {chk : Sto → Prop} {g : WG} {e : WE} {τ : DEnv} {R : DQ} {as : List α} {S : Sto} (gd h : α → D) (I : Sto → Prop) (hI : I S) (hc : ∀ S', I S' → chk S') (hl : as.length ≤ sizeLine)
    (hs : ∀ a S' (N : DQ), a ∈ as → I S' → (∀ S'', I S'' → N (h a) S'') → g (gd a) τ S' fun τ1 S1 => e τ1 S1 N) (h0 : ∀ S', I S' → R (.loc S'.length) (S' ++ [.lst (as.map h)])) : lcGo chk g wYes e τ R (as.map gd) [] S :=
  lc_over_go hI hc (by simpa using hl) hs (by simpa using h0)
theorem blsD_mapf {α : Type} {f : α → Bool} (as : List α) : blsD (as.map fun a => D.bl (f a)) = some (as.map f) := by
  have := blsD_map (as.map f)
  rwa [List.map_map] at this
@[simp] theorem dInS_str {c : Nat} {z : Str} {S : Sto} {R : DQ} : dIn (.str ⟨#[c]⟩) (.str z) S R = R (.bl (decide (c ∈ z.cps.toList))) S := by
  simp [dIn, opOr, dInB, dInQ, dInS, dInD, inD, seqD]
@[simp] theorem dNotInS_str {c : Nat} {z : Str} {S : Sto} {R : DQ} : dNotIn (.str ⟨#[c]⟩) (.str z) S R = R (.bl (!decide (c ∈ z.cps.toList))) S := by
  simp [dNotIn, opOr, dNotInB, dNotInQ, dNotInS, dNotInD, inD, seqD]
theorem cutS_len (x : Str) (lo hi : Option Int) : (cutS x lo hi).length ≤ x.length := by
  simp only [cutS, Str.length]
  simp [List.length_take]
  omega
theorem repS_len (x : Str) (n : Nat) : (repS x n).length = n * x.length := by
  simp [repS, Str.length]
theorem strsD_map : ∀ ns : List Str, strsD (ns.map D.str) = some ns
  | [] => rfl
  | n :: ns => by simp [strsD, strsD_map ns]
theorem strs_of {P : Str → Prop} {items ys : List D} (h : All2 (fun _ y => ∃ x : Str, y = .str x ∧ P x) items ys) : ∃ zs : List Str, ys = zs.map D.str ∧ (∀ z ∈ zs, P z) ∧ zs.length = items.length := by
  induction h with
  | nil => exact ⟨[], rfl, by simp, rfl⟩
  | cons q _ ih =>
    obtain ⟨x, rfl, hx⟩ := q
    obtain ⟨zs, rfl, h2, h3⟩ := ih
    exact ⟨x :: zs, rfl, by
      intro z hz
      rcases List.mem_cons.mp hz with e | hz
      · rw [e]; exact hx
      · exact h2 z hz, by simp [h3]⟩
theorem join_ones {zs : List Str} (h : ∀ z ∈ zs, z.length = 1) : (Txt.join (Str.ofString "") zs).length = zs.length := PySem.W.KT.join_ones zs h
@[simp] theorem keyD_str {x : Str} : keyD (.str x) = some (.text x) := rfl
@[simp] theorem keyD_int {i : Int} : keyD (.int i) = some (.num i) := rfl
@[simp] theorem keyD_non : keyD .non = some .none := rfl
@[simp] theorem stoD_nil {z : Nat × List (D × D)} : stoD z [] = some z := rfl
theorem stoD_1 {k v : D} {kk : NestedKey} (h : keyD k = some kk) : stoD (0, []) [(k, v)] = some (1, [(k, v)]) := by simp [stoD, h, epD, putD, lkD]
@[simp] theorem stoD_str {x : Str} {v : D} : stoD (0, []) [(.str x, v)] = some (1, [(.str x, v)]) := stoD_1 keyD_str
theorem get_at {S T : Sto} {i : Nat} : (S ++ T)[S.length + i]? = T[i]? := by
  rw [List.getElem?_append_right (by omega)]
  congr 1
  omega
theorem get_at0 {S T : Sto} : (S ++ T)[S.length]? = T[0]? := get_at (i := 0)
theorem eqK_plain1 {k v : D} (hk : plainD 8 k = true) (hv : plainD 100 v = true) : eqK [(k, v)] [(k, v)] = some true := by
  obtain ⟨kk, h1, h2⟩ := key_plain 8 k hk
  obtain ⟨kv, h3, h4⟩ := key_plain 100 v hv
  simp [eqK, allK, h1, lkD, h3, NestedKey.beq_self, h4]
theorem eqD_dcts {S : Sto} {i j e1 e2 : Nat} {k1 k2 : List (D × D)} {b : Bool} (hi : S[i]? = some (.dct e1 k1)) (hj : S[j]? = some (.dct e2 k2)) (h : eqK k1 k2 = some b) : eqD S (.loc i) (.loc j) = some b := by
  simp [eqD, hi, hj, h]
theorem Le.get {S S' : Sto} {j : Nat} {o : O} (h : Le S S') (e : S[j]? = some o) : S'[j]? = some o := h j o e
end Dl

namespace Dl
open PySem L2

/-! ## < of texts, of tuples of whole numbers, texts, tuples -/
/-- how two rows of values compare, as far as is looked -/
inductive LtsAt (A : Around) (s : Shared) : List Value → List Value → Bool → Prop
  | nil : LtsAt A s [] [] false
  | left {y : Value} {ys : List Value} : LtsAt A s [] (y :: ys) true
  | right {x : Value} {xs : List Value} : LtsAt A s (x :: xs) [] false
  | same {x y : Value} {xs ys : List Value} {b : Bool} : SeqAt.EqAt A s x y true → LtsAt A s xs ys b → LtsAt A s (x :: xs) (y :: ys) b
  | less {x y : Value} {xs ys : List Value} {b : Bool} : SeqAt.EqAt A s x y false → SeqAt.RcLt A s x y b → LtsAt A s (x :: xs) (y :: ys) b
section
open PySem.SeqAt
open PySem.AutoSeq1 (wpAny_loadPart')
open PySem.MeetsSeq PySem.MeetsSeq2 PySem.MeetsSeq3
theorem tuple_lts (l b : Addr) (us vs : Array Value) (n n2 : Nat) (dd dd2 : Option Addr) (sl sl2 : Array (Option Value)) (k : Bool) :
    Meets (Builtin.«tuple.__lt__» ⟨[.ref l, .ref b], []⟩)
      (fun A R s => s.heap.get? l = some { cls := .type "tuple", dict := dd, data := .seq us n, slots := sl } ∧ s.heap.get? b = some { cls := .type "tuple", dict := dd2, data := .seq vs n2, slots := sl2 } ∧ LtsAt A.in1 s us.toList vs.toList k ∧ R (.ok (.ret (.bool k))) s) :=
  .of_wp fun prog w A R s h => by
    obtain ⟨hp, g, d, tk, os⟩ := s
    obtain ⟨hl, hb, hk, h⟩ := h
    have f2 := AutoSeq1.sub_tuple_tuple
    wp_walk using wpAny_loadPart' hl, wpAny_loadPart' hb, wpAny_forIn_list _ (fun rest z s' => z.1 = none ∧ s' = ⟨hp, g, d, tk, os⟩ ∧ ∃ (ps qs : List Value), rest = ps.zip qs ∧
      ps.length + vs.size = qs.length + us.size ∧ LtsAt A.in1 ⟨hp, g, d, tk, os⟩ ps qs k) _
    case turn =>
      rintro ⟨y, x⟩ rest z s' ⟨hz1, rfl, ps, qs, hz, hlen, hk2⟩
      cases hk2 with
      | nil => rw [List.zip_nil_left] at hz; cases hz
      | left => rw [List.zip_nil_left] at hz; cases hz
      | right => rw [List.zip_nil_right] at hz; cases hz
      | same he ht =>
        rw [List.zip_cons_cons] at hz
        injection hz with hyx hrest
        injection hyx with hy hx
        subst hy hx
        refine wpAny_bind (he prog w _ _ ?_)
        wp_walk
        exact ⟨rfl, rfl, _, _, hrest, by simp only [List.length_cons] at hlen; omega, ht⟩
      | less he hr =>
        rw [List.zip_cons_cons] at hz
        injection hz with hyx hrest
        injection hyx with hy hx
        subst hy hx
        refine wpAny_bind (he prog w _ _ ?_)
        have hri := hr prog w
        wp_walk using hri
        exact ⟨_, rfl, h⟩
    case fin =>
      rintro ⟨z1, z2⟩ s' ⟨hz1, rfl, ps, qs, hz, hlen, hk2⟩
      simp only at hz1
      subst hz1
      wp_walk
      cases hk2 with
      | nil =>
        simp only [List.length_nil] at hlen
        exact ⟨_, rfl, by simpa [Builtin.Tuple.tupleCompareSizes, show ¬ us.size < vs.size by omega] using h⟩
      | left =>
        simp only [List.length_nil, List.length_cons] at hlen
        exact ⟨_, rfl, by simpa [Builtin.Tuple.tupleCompareSizes, show us.size < vs.size by omega] using h⟩
      | right =>
        simp only [List.length_nil, List.length_cons] at hlen
        exact ⟨_, rfl, by simpa [Builtin.Tuple.tupleCompareSizes, show ¬ us.size < vs.size by omega] using h⟩
      | same _ _ => rw [List.zip_cons_cons] at hz; cases hz
      | less _ _ => rw [List.zip_cons_cons] at hz; cases hz
    case h =>
      exact ⟨rfl, rfl, _, _, rfl, by simp; omega, hk⟩
theorem rcLt_tups {A : Around} {s : Shared} {l b : Addr} {us vs : Array Value} {k : Bool} (hl : s.heap.IsTuple l us) (hb : s.heap.IsTuple b vs) (hu : A.units < cLine) (h : LtsAt A.in1 s us.toList vs.toList k) : SeqAt.RcLt A s (.ref l) (.ref b) k := fun prog w E Q q => by
  obtain ⟨⟨cls, dd, data, sl⟩, ho, hc, n, hd⟩ := id hl
  obtain ⟨⟨cls2, dd2, data2, sl2⟩, ho2, hc2, n2, hd2⟩ := id hb
  simp only at hc hd hc2 hd2
  subst hc hd hc2 hd2
  exact richCompare_meets_room (op := .Lt) ⟨_, ho, rfl⟩ ⟨_, ho2, rfl⟩ F.slot_tuple_lt F.entry_tuple_lt (F.args_tuple_lt_2 _ _) (tuple_lts l b us vs n n2 dd dd2 sl sl2 k) ⟨ho, ho2, h, (fun x => nomatch x), q⟩ hu
end
mutual
/-- what < tells -/
def ltD : D → D → Option Bool
  | .int a, .int b => some (decide (a < b))
  | .str x, .str y => some (decide (x.cps.toList < y.cps.toList))
  | .tup xs, .tup ys => ltDs xs ys
  | _, _ => none
def ltDs : List D → List D → Option Bool
  | [], [] => some false
  | [], _ :: _ => some true
  | _ :: _, [] => some false
  | d :: ds, c :: cs => match keyOf d, keyOf c with
    | some k1, some k2 => if NestedKey.beq k1 k2 = true then ltDs ds cs else ltD d c
    | _, _ => none
end
section
variable {X : Cx} {pins : List (Addr × Obj)} {σ : St} {H : Hp} {s : Shared} {ρ : List Addr}
mutual
theorem ltD_ok (I : L2.Inv X pins σ H s) : ∀ (d c : D) (k : NestedKey) (A : Around) (v1 v2 : V) (u1 u2 : Value) (b : Bool), ltD d c = some b → keyOf d = some k → VR X.K ρ H d v1 → VR X.K ρ H c v2 → RelV v1 u1 → RelV v2 u2 → A.units + k.depth < cLine → SeqAt.RcLt A s u1 u2 b
  | .int a, c, k, A, v1, v2, u1, u2, b, e, hk, r1, r2, q1, q2, hu => by
    cases c with
    | int a2 =>
      cases e
      cases r1.int_of
      cases r2.int_of
      obtain ⟨t1, rfl⟩ := (show ∃ t, u1 = Value.int a t from q1)
      obtain ⟨t2, rfl⟩ := (show ∃ t, u2 = Value.int a2 t from q2)
      exact fun prog w E Q q => HT.rcLt_int A s a t1 a2 t2 prog w E Q q
    | _ => cases e
  | .str a, c, k, A, v1, v2, u1, u2, b, e, hk, r1, r2, q1, q2, hu => by
    cases c with
    | str a2 =>
      cases e
      cases r1.str_of
      cases r2.str_of
      obtain ⟨t1, rfl⟩ := (show ∃ t, u1 = Value.str a t from q1)
      obtain ⟨t2, rfl⟩ := (show ∃ t, u2 = Value.str a2 t from q2)
      exact fun prog w E Q q => DT.rcLt_str A s a t1 a2 t2 prog w E Q q
    | _ => cases e
  | .tup ds, c, k, A, v1, v2, u1, u2, b, e, hk, r1, r2, q1, q2, hu => by
    cases c with
    | tup cs =>
      obtain ⟨a1, vs1, rfl, h1, h2⟩ := r1.tup_of
      obtain ⟨a2, vs2, rfl, h3, h4⟩ := r2.tup_of
      cases (show u1 = Value.ref a1 from q1)
      cases (show u2 = Value.ref a2 from q2)
      obtain ⟨is1, rv1, t1, _⟩ := I.tuple h1.sq
      obtain ⟨is2, rv2, t2, _⟩ := I.tuple h3.sq
      have e' : (keyOf.keysOf ds).map NestedKey.tup = some k := hk
      cases e2 : keyOf.keysOf ds with
      | none =>
        rw [e2] at e'
        cases e'
      | some ks =>
        rw [e2] at e'
        cases e'
        have hd : NestedKey.depth (.tup ks) = NestedKey.depthAll ks + 1 := by simp [NestedKey.depth]
        rw [hd] at hu
        exact rcLt_tups t1 t2 (by omega) (by simpa using ltDs_ok I ds cs ks A.in1 vs1 vs2 is1 is2 b e e2 h2 h4 rv1 rv2 (by show A.units + 1 + _ < cLine; omega))
    | _ => cases e
  | .non, c, k, A, v1, v2, u1, u2, b, e, hk, r1, r2, q1, q2, hu => by cases c <;> cases e
  | .bl _, c, k, A, v1, v2, u1, u2, b, e, hk, r1, r2, q1, q2, hu => by cases c <;> cases e
  | .fls _, c, k, A, v1, v2, u1, u2, b, e, hk, r1, r2, q1, q2, hu => by cases hk
  | .loc _, c, k, A, v1, v2, u1, u2, b, e, hk, r1, r2, q1, q2, hu => by cases hk
theorem ltDs_ok (I : L2.Inv X pins σ H s) : ∀ (ds cs : List D) (ks : List NestedKey) (A : Around) (vs1 vs2 : List V) (us1 us2 : List Value) (b : Bool), ltDs ds cs = some b → keyOf.keysOf ds = some ks → VRs X.K ρ H ds vs1 → VRs X.K ρ H cs vs2 → Vals vs1 us1 → Vals vs2 us2 → A.units + NestedKey.depthAll ks < cLine → LtsAt A s us1 us2 b
  | [], [], ks, A, vs1, vs2, us1, us2, b, e, hk, r1, r2, q1, q2, hu => by
    cases r1.nil_of
    cases r2.nil_of
    cases q1
    cases q2
    cases e
    exact .nil
  | [], c :: cs, ks, A, vs1, vs2, us1, us2, b, e, hk, r1, r2, q1, q2, hu => by
    cases r1.nil_of
    unfold VRs at r2
    obtain ⟨v, vr, rfl, _, _⟩ := r2
    cases q1
    cases q2
    cases e
    exact .left
  | d :: ds, [], ks, A, vs1, vs2, us1, us2, b, e, hk, r1, r2, q1, q2, hu => by
    cases r2.nil_of
    unfold VRs at r1
    obtain ⟨v, vr, rfl, _, _⟩ := r1
    cases q1
    cases q2
    cases e
    exact .right
  | d :: ds, c :: cs, ks, A, vs1, vs2, us1, us2, b, e, hk, r1, r2, q1, q2, hu => by
    unfold VRs at r1 r2
    obtain ⟨x1, xr1, rfl, g1, g2⟩ := r1
    obtain ⟨x2, xr2, rfl, g3, g4⟩ := r2
    cases q1 with
    | cons p1 t1 =>
    cases q2 with
    | cons p2 t2 =>
    unfold ltDs at e
    unfold keyOf.keysOf at hk
    cases e1 : keyOf d with
    | none =>
      rw [e1] at hk
      cases hk
    | some k1 =>
      cases e2 : keyOf.keysOf ds with
      | none =>
        rw [e1, e2] at hk
        cases hk
      | some ks' =>
        rw [e1, e2] at hk
        cases hk
        simp only [NestedKey.depthAll] at hu
        cases e3 : keyOf c with
        | none =>
          rw [e1, e3] at e
          cases e
        | some k2 =>
          simp only [e1, e3] at e
          have n1 := nested_of I d k1 _ _ e1 g1 p1
          have n2 := nested_of I c k2 _ _ e3 g3 p2
          have eq := eqAt_key k1 k2 A s _ _ n1 n2 (by omega)
          by_cases hb : NestedKey.beq k1 k2 = true
          · rw [if_pos hb] at e
            rw [hb] at eq
            exact .same eq (ltDs_ok I ds cs ks' A _ _ _ _ b e e2 g2 g4 t1 t2 (by omega))
          · rw [if_neg hb] at e
            rw [Bool.not_eq_true _ |>.mp hb] at eq
            exact .less eq (ltD_ok I d c k1 A _ _ _ _ b e e1 g1 g3 p1 p2 (by omega))
end
end
def dLtD : DOp := fun d1 d2 S R => ∃ k b, keyOf d1 = some k ∧ k.depth ≤ 100 ∧ ltD d1 d2 = some b ∧ R (.bl b) S
def dLt : DOp := opOr dLtI dLtD
section
variable {X : Cx}
theorem od_ltD (hu : X.A.units + 150 < cLine) : OpR X (compareOp .Lt) (rD X dLtD) := fun pins s σ H x y v u Q I rx ry ⟨ρ, S, d1, d2, R, W, r1, r2, ⟨k, b, e1, e2, e3, q⟩, p⟩ =>
  ltD_ok I d1 d2 k X.A x y v u b e3 e1 r1 r2 rx ry (by omega) X.prog X.w _ _ ⟨.bl b, H, I, rfl, p _ _ q ρ H _ (Ext.refl _ _) W .bl⟩
theorem od_lt (hu : X.A.units + 150 < cLine) : OpR X (compareOp .Lt) (rD X dLt) := OpD.or od_ltI (od_ltD hu)
end
@[simp] theorem dLt_int {m n : Int} {S : Sto} {R : DQ} : dLt (.int m) (.int n) S R = R (.bl (decide (m < n))) S := by
  simp [dLt, opOr, dLtI, dLtD, keyOf, ltD, NestedKey.depth]
@[simp] theorem dLt_str {x y : Str} {S : Sto} {R : DQ} : dLt (.str x) (.str y) S R = R (.bl (decide (x.cps.toList < y.cps.toList))) S := by
  simp [dLt, opOr, dLtI, dLtD, keyOf, ltD, NestedKey.depth]
theorem dLt_tup {xs ys : List D} {S : Sto} {R : DQ} (h : plainD 100 (.tup xs) = true) : dLt (.tup xs) (.tup ys) S R = ∃ b, ltDs xs ys = some b ∧ R (.bl b) S := by
  obtain ⟨k, h1, h2⟩ := key_plain 100 _ h
  simp [dLt, opOr, dLtI, dLtD, h1, h2, ltD]
@[simp] theorem cutD_tail {x : D} {xs : List D} : cutD (x :: xs) (some 1) none = xs := by
  have : min 1 (xs.length + 1) = 1 := by omega
  simp [cutD, HT.sIx, this]
theorem keysOf_strs : ∀ ss : List Str, keyOf.keysOf (ss.map D.str) = some (ss.map NestedKey.text)
  | [] => rfl
  | s :: ss => by
    rw [List.map_cons, keyOf.keysOf, keysOf_strs ss]
    rfl
theorem dIn_strs {x : Str} {ss : List Str} {S : Sto} {R : DQ} : dIn (.str x) (.tup (ss.map D.str)) S R = R (.bl (decide (x ∈ ss))) S := by
  have e : inKeys (.text x) (ss.map NestedKey.text) = decide (x ∈ ss) := by
    unfold inKeys
    rw [List.any_map, Bool.eq_iff_iff, List.any_eq_true, decide_eq_true_iff]
    refine ⟨fun ⟨y, h1, h2⟩ => ?_, fun h => ⟨x, h, by simp [NestedKey.beq_self]⟩⟩
    have := NestedKey.eq_of_beq _ _ h2
    cases this
    exact h1
  have k1 : keyOf (.str x) = some (.text x) := rfl
  simp [dIn, opOr, dInB, dInQ, dInS, dInD, inD, seqD, k1, keysOf_strs, e, NestedKey.depth]
theorem dIn_strs2 {x a b : Str} {S : Sto} {R : DQ} : dIn (.str x) (.tup [.str a, .str b]) S R = R (.bl (decide (x = a ∨ x = b))) S := by
  have := dIn_strs (x := x) (ss := [a, b]) (S := S) (R := R)
  simpa using this
theorem dIn_strs3 {x a b c : Str} {S : Sto} {R : DQ} : dIn (.str x) (.tup [.str a, .str b, .str c]) S R = R (.bl (decide (x = a ∨ x = b ∨ x = c))) S := by
  have := dIn_strs (x := x) (ss := [a, b, c]) (S := S) (R := R)
  simpa using this
end Dl

namespace Dl
open PySem L2 PyProof.Rows PySem.Spec

/-! ## str(x) of what is no text -/
mutual
inductive Shw (S : Sto) : D → PyData → Prop
  | non : Shw S .non .none
  | bl {b : Bool} : Shw S (.bl b) (.bool b)
  | int {i : Int} : Shw S (.int i) (.int i)
  | str {x : Str} : Shw S (.str x) (.str x)
  | tup {ds : List D} {ps : List PyData} : Shws S ds ps → Shw S (.tup ds) (.tuple ps)
  | fls {ds : List D} {ps : List PyData} : Shws S ds ps → Shw S (.fls ds) (.list ps)
  | lst {l : Nat} {ds : List D} {ps : List PyData} : S[l]? = some (.lst ds) → Shws S ds ps → Shw S (.loc l) (.list ps)
  | dct {l ep : Nat} {kvs : List (D × D)} {ps : List (PyData × PyData)} : S[l]? = some (.dct ep kvs) → Shws S (kvs.map (·.1)) (ps.map (·.1)) → Shws S (kvs.map (·.2)) (ps.map (·.2)) → Shw S (.loc l) (.dict ps)
inductive Shws (S : Sto) : List D → List PyData → Prop
  | nil : Shws S [] []
  | cons {d : D} {ds : List D} {p : PyData} {ps : List PyData} : Shw S d p → Shws S ds ps → Shws S (d :: ds) (p :: ps)
end
mutual
def hasLst : PyData → Bool
  | .none | .bool _ | .int _ | .str _ => false
  | .list _ => true
  | .tuple xs => hasLsts xs
  | .dict kvs => hasLstKv kvs
def hasLsts : List PyData → Bool
  | [] => false
  | x :: xs => hasLst x || hasLsts xs
def hasLstKv : List (PyData × PyData) → Bool
  | [] => false
  | (a, b) :: r => (hasLst a || hasLst b) || hasLstKv r
end
theorem hasLstKv_split : ∀ (kvs : List (PyData × PyData)), hasLstKv kvs = false → hasLsts (kvs.map (·.1)) = false ∧ hasLsts (kvs.map (·.2)) = false
  | [], _ => ⟨by simp [hasLsts], by simp [hasLsts]⟩
  | (a, b) :: r, h => by
    simp only [hasLstKv, Bool.or_eq_false_iff] at h
    obtain ⟨h1, h2⟩ := hasLstKv_split r h.2
    simp [hasLsts, h.1.1, h.1.2, h1, h2]
section
variable {X : Cx} {pins : List (Addr × Obj)} {σ : L2.St} {H : Hp} {s : Shared} {ρ : List Addr} {S : Sto}
theorem ent_two : ∀ {kvs : List (D × D)} {es : List DictEntry}, Paired (EntR X.w X.K ρ H) kvs es → (∃ vs, VRs X.K ρ H (kvs.map (·.1)) vs ∧ Vals vs (es.map (·.key))) ∧ ∃ vs, VRs X.K ρ H (kvs.map (·.2)) vs ∧ Vals vs (es.map (·.val))
  | _, _, .nil => ⟨⟨[], .nil, .nil⟩, ⟨[], .nil, .nil⟩⟩
  | _, _, .cons ⟨k, kv, dv, _, _, _, h1, h2, h3, h4⟩ t => by
    obtain ⟨⟨vs, a1, a2⟩, ⟨ws, b1, b2⟩⟩ := ent_two t
    exact ⟨⟨kv :: vs, .cons h1 a1, .cons h2 a2⟩, ⟨dv :: ws, .cons h3 b1, .cons h4 b2⟩⟩
mutual
theorem Shw.reads (I : L2.Inv X pins σ H s) (W : Wd X.w X.K X.mg ρ S H) : ∀ {d : D} {p : PyData}, Shw S d p → ∀ {v : V} {u : Value}, VR X.K ρ H d v → RelV v u → ∃ as, Reads s.heap u p as ∧ (hasLst p = false → sysModules ∉ as)
  | _, _, .non, v, u, h, r => by
    unfold VR at h
    subst h
    cases r
    exact ⟨[], .none, by simp⟩
  | _, _, .bl, v, u, h, r => by
    unfold VR at h
    subst h
    cases r
    exact ⟨[], .bool _, by simp⟩
  | _, _, .int, v, u, h, r => by
    unfold VR at h
    subst h
    obtain ⟨t, rfl⟩ := r
    exact ⟨[], .int _ _, by simp⟩
  | _, _, .str, v, u, h, r => by
    unfold VR at h
    subst h
    obtain ⟨t, rfl⟩ := r
    exact ⟨[], .str _ _, by simp⟩
  | _, _, .tup t, v, u, h, r => by
    unfold VR at h
    obtain ⟨a, vs, rfl, h1, h2⟩ := h
    cases r
    obtain ⟨its, rv, ⟨o, ho, hc, n, hd⟩, _⟩ := I.tuple h1.sq
    obtain ⟨as, h3, h4⟩ := Shws.reads I W t h2 rv
    exact ⟨as, .tuple ho hc hd h3, fun q => h4 (by simpa [hasLst] using q)⟩
  | _, _, .fls t, v, u, h, r => by
    unfold VR at h
    obtain ⟨a, vs, rfl, h1, h2⟩ := h
    cases r
    obtain ⟨its, rv, ⟨o, n, ho, hc, _, hd⟩, _⟩ := I.list h1.sq
    obtain ⟨as, h3, h4⟩ := Shws.reads I W t h2 rv
    exact ⟨a :: as, .list ho hc hd h3, fun q => by simp [hasLst] at q⟩
  | _, _, .lst (l := l) e t, v, u, h, r => by
    unfold VR at h
    obtain ⟨a, h1, rfl⟩ := h
    cases r
    obtain ⟨vs, h2, h3⟩ := W.obj l a _ h1 e
    obtain ⟨its, rv, ⟨o, n, ho, hc, _, hd⟩, _⟩ := I.list (xs := vs) (.inl (.inl h2))
    obtain ⟨as, h4, h5⟩ := Shws.reads I W t h3 rv
    exact ⟨a :: as, .list ho hc hd h4, fun q => by simp [hasLst] at q⟩
  | _, _, .dct (l := l) e t1 t2, v, u, h, r => by
    unfold VR at h
    obtain ⟨a, h1, rfl⟩ := h
    cases r
    obtain ⟨ha, _, _, es, h2, h3⟩ := W.obj l a _ h1 e
    obtain ⟨o, ho, hx, hd⟩ := (I.hok a _ h2).1
    obtain ⟨⟨vs, a1, a2⟩, ⟨ws, b1, b2⟩⟩ := ent_two (X := X) h3
    obtain ⟨as, h4, h5⟩ := Shws.reads I W t1 a1 a2
    obtain ⟨bs, h6, h7⟩ := Shws.reads I W t2 b1 b2
    refine ⟨a :: as ++ bs, .dict ho hx.1 hd h4 h6, fun q => ?_⟩
    obtain ⟨q1, q2⟩ := hasLstKv_split _ (by simpa [hasLst] using q)
    simp only [List.cons_append, List.mem_cons, List.mem_append, not_or]
    exact ⟨fun e => by rw [← e] at ha; simp at ha, h5 q1, h7 q2⟩
theorem Shws.reads (I : L2.Inv X pins σ H s) (W : Wd X.w X.K X.mg ρ S H) : ∀ {ds : List D} {ps : List PyData}, Shws S ds ps → ∀ {vs : List V} {us : List Value}, VRs X.K ρ H ds vs → Vals vs us → ∃ as, ReadsAll s.heap us ps as ∧ (hasLsts ps = false → sysModules ∉ as)
  | _, _, .nil, vs, us, h, r => by
    unfold VRs at h
    subst h
    cases r
    exact ⟨[], .nil, by simp⟩
  | _, _, .cons t ts, vs, us, h, r => by
    unfold VRs at h
    obtain ⟨v, vr, rfl, h1, h2⟩ := h
    cases r with
    | cons r1 r2 =>
      obtain ⟨as, a1, a2⟩ := Shw.reads I W t h1 r1
      obtain ⟨bs, b1, b2⟩ := Shws.reads I W ts h2 r2
      refine ⟨as ++ bs, .cons a1 b1, fun q => ?_⟩
      simp only [hasLsts, Bool.or_eq_false_iff] at q
      simp only [List.mem_append, not_or]
      exact ⟨a2 q.1, b2 q.2⟩
end
/-- what str(..) and repr(..) show -/
structure Fit (p : PyData) : Prop where
  sh : p.showable = true
  one : p.hasDict = false ∨ hasLst p = false
  dp : p.depth ≤ 150
  sz : p.shown.length ≤ sizeLine
def notStr : D → Bool
  | .str _ => false
  | _ => true
def dStrS : DCall := fun ds S R => ∃ d p, ds = [d] ∧ notStr d = true ∧ Shw S d p ∧ Fit p ∧ R (.str p.shown) S
theorem cd_strS {k : Nat} (hr : RoomG k X.A) : CallR X (.type "str") (rCD X dStrS) := fun pins s σ H xs us Q I r ⟨ρ, S, ds, R, W, rv, ⟨d, p, e1, e2, e3, F, q⟩, pq⟩ => by
  subst e1
  obtain ⟨v, rfl, r1⟩ := rv.one_of
  obtain ⟨u, rfl, r2⟩ := vals1 r
  have fin : ∀ (s' : Shared), L2.Inv X pins σ H s' → ∀ u, EP X pins σ Q (.str p.shown u) s' := fun s' I' u => ⟨.str p.shown, H, I', ⟨u, rfl⟩, pq _ _ q ρ H _ (Ext.refl _ _) W .str⟩
  obtain ⟨as, h1, h2⟩ := e3.reads I W r1 r2
  have hu := hr.room.un
  have ref : ∀ a, u = .ref a → wpAny (model X.prog X.w) X.A (call (.type "str") [u]) (EP X pins σ Q) X.xe s := fun a e => by
    subst e
    have := F.dp
    exact str_of_reads h1 F.sh (fun hd => h2 (F.one.resolve_left (by rw [hd]; simp))) hr.gd (by omega) (fun _ _ e => e) (fun h' u tk hk => fin _ (I.kept hk) u) F.sz
  cases e3 with
  | non =>
    unfold VR at r1
    subst r1
    cases r2
    exact PySem.P.str_of_none (fin _ (I.tok _) _)
  | bl =>
    unfold VR at r1
    subst r1
    cases r2
    exact PySem.P.str_of_bool (fin _ (I.tok _) _)
  | int =>
    unfold VR at r1
    subst r1
    obtain ⟨t, rfl⟩ := r2
    exact PySem.P.str_of_int (by simpa [PyData.showable] using F.sh) (fin _ (I.tok _) _)
  | str => cases e2
  | tup _ =>
    unfold VR at r1
    obtain ⟨a, _, rfl, _⟩ := r1
    cases r2
    exact ref _ rfl
  | fls _ =>
    unfold VR at r1
    obtain ⟨a, _, rfl, _⟩ := r1
    cases r2
    exact ref _ rfl
  | lst _ _ =>
    unfold VR at r1
    obtain ⟨a, _, rfl⟩ := r1
    cases r2
    exact ref _ rfl
  | dct _ _ _ =>
    unfold VR at r1
    obtain ⟨a, _, rfl⟩ := r1
    cases r2
    exact ref _ rfl
def dStrA : DCall := callOr dStr1 dStrS
theorem cd_strA {k : Nat} (hr : RoomG k X.A) : CallR X (.type "str") (rCD X dStrA) := CallD.or cd_str1 (cd_strS hr)
end
section
variable {S : Sto} {R : DQ} {i : Int} {x : Str}
@[simp] theorem dStrA_str : dStrA [.str x] S R = R (.str x) S := by
  simp only [dStrA, callOr, dStr1_str]
  apply propext
  refine ⟨fun h => ?_, .inl⟩
  rcases h with h | ⟨d, p, e, h, _⟩
  · exact h
  · cases e
    cases h
@[simp] theorem dStrA_int : dStrA [.int i] S R = (i.natAbs.log2 < 1920 ∧ R (.str (toString i)) S) := by
  simp only [dStrA, callOr, dStr1_int]
  apply propext
  refine ⟨fun h => ?_, .inl⟩
  rcases h with h | ⟨d, p, e, _, h, F, q⟩
  · exact h
  · cases e
    cases h
    refine ⟨by simpa [PyData.showable] using F.sh, ?_⟩
    simpa only [PyData.shown] using q
/-- str(x), x no text -/
theorem dStrA_shw {d : D} {p : PyData} (h : Shw S d p) (hn : notStr d = true) (F : Fit p) (q : R (.str p.shown) S) : dStrA [d] S R := .inr ⟨d, p, rfl, hn, h, F, q⟩
end
end Dl

namespace Dl
open PySem L2

/-! ## texts that show values: their size -/
mutual
def notFls : D → Bool
  | .fls _ => false
  | .tup ds => notFlss ds
  | _ => true
def notFlss : List D → Bool
  | [] => true
  | d :: ds => notFls d && notFlss ds
end
/-- a text of signs -/
def Cs (x : Str) : Prop := ∀ c ∈ x.cps.toList, c < 16 ^ 8
theorem Cs.app {x y : Str} (h : Cs x) (g : Cs y) : Cs (x ++ y) := fun c hc => by
  have : c ∈ x.cps.toList ++ y.cps.toList := by simpa [Str.cps_append] using hc
  rcases List.mem_append.mp this with q | q
  · exact h c q
  · exact g c q
theorem Cs.cut {x : Str} {lo hi : Option Int} (h : Cs x) : Cs (cutS x lo hi) := fun c hc => by
  refine h c ?_
  simp only [cutS] at hc
  exact List.mem_of_mem_drop (List.mem_of_mem_take hc)
theorem Cs.rep {x : Str} {n : Nat} (h : Cs x) : Cs (repS x n) := fun c hc => by
  simp only [repS, List.mem_flatten, List.mem_replicate] at hc
  obtain ⟨z, ⟨_, rfl⟩, hz⟩ := hc
  exact h c hz
theorem Cs.one {c : Nat} (h : c < 16 ^ 8) : Cs ⟨#[c]⟩ := fun d hd => by
  simp at hd
  rw [hd]
  exact h
theorem Cs.lit {x : Str} (h : (x.cps.toList.all fun c => decide (c < 16 ^ 8)) = true) : Cs x := fun c hc => of_decide_eq_true (List.all_eq_true.mp h c hc)
theorem glue_mem : ∀ (zs : List Str) (acc : Array Nat) (c : Nat), c ∈ (zs.foldl (fun acc p => acc ++ (Str.ofString "").cps ++ p.cps) acc).toList → c ∈ acc.toList ∨ ∃ z ∈ zs, c ∈ z.cps.toList
  | [], acc, c, h => .inl h
  | z :: zs, acc, c, h => by
    have e : (Str.ofString "").cps = #[] := by decide +kernel
    rcases glue_mem zs _ c h with q | ⟨y, hy, q⟩
    · rw [e] at q
      simp only [Array.append_empty, Array.toList_append, List.mem_append] at q
      rcases q with q | q
      · exact .inl q
      · exact .inr ⟨z, by simp, q⟩
    · exact .inr ⟨y, by simp [hy], q⟩
theorem Cs.join {zs : List Str} (h : ∀ z ∈ zs, Cs z) : Cs (Txt.join (Str.ofString "") zs) := fun c hc => by
  have hc' : c ∈ (Builtin.Str.glued (Str.ofString "") zs).cps.toList := hc
  unfold Builtin.Str.glued at hc'
  rcases glue_mem _ _ c hc' with q | ⟨z, hz, q⟩
  · cases zs with
    | nil => simp [Str.empty] at q
    | cons z zs => exact h z (by simp) c (by simpa using q)
  · exact h z (List.mem_of_mem_drop hz) c q
/-- what is shown of a value, of so many values within one another, of so many signs -/
structure Pg (n b : Nat) (hd hl : Bool) (p : PyData) : Prop where
  dp : p.depth ≤ n
  bk : p.bulk ≤ b
  lv : p.leavesShort 50 = true
  sh : p.showable = true
  di : p.hasDict = true → hd = true
  li : hasLst p = true → hl = true
theorem Pg.le {n b n' b' : Nat} {hd hl : Bool} {p : PyData} (h : Pg n b hd hl p) (h1 : n ≤ n') (h2 : b ≤ b') : Pg n' b' hd hl p := ⟨by have := h.dp; omega, by have := h.bk; omega, h.lv, h.sh, h.di, h.li⟩
/-- a value that can be shown so -/
def Tg (S : Sto) (n b : Nat) (hd hl : Bool) (d : D) : Prop := ∃ p, Shw S d p ∧ Pg n b hd hl p
theorem Tg.le {S : Sto} {n b n' b' : Nat} {hd hl : Bool} {d : D} (h : Tg S n b hd hl d) (h1 : n ≤ n') (h2 : b ≤ b') : Tg S n' b' hd hl d :=
  let ⟨p, x, y⟩ := h
  ⟨p, x, y.le h1 h2⟩
theorem Tg.flags {S : Sto} {n b : Nat} {hd hl hd' hl' : Bool} {d : D} (h : Tg S n b hd hl d) (h1 : hd = true → hd' = true) (h2 : hl = true → hl' = true) : Tg S n b hd' hl' d :=
  let ⟨p, x, y⟩ := h
  ⟨p, x, y.dp, y.bk, y.lv, y.sh, fun q => h1 (y.di q), fun q => h2 (y.li q)⟩
theorem Tg.non {S : Sto} {n b : Nat} {hd hl : Bool} : Tg S n b hd hl .non := ⟨_, .non, by simp [PyData.depth], by simp [PyData.bulk], rfl, rfl, by simp [PyData.hasDict], by simp [hasLst]⟩
theorem Tg.bl {S : Sto} {n b : Nat} {hd hl c : Bool} : Tg S n b hd hl (.bl c) := ⟨_, .bl, by simp [PyData.depth], by simp [PyData.bulk], rfl, rfl, by simp [PyData.hasDict], by simp [hasLst]⟩
theorem Tg.int {S : Sto} {n b : Nat} {hd hl : Bool} {i : Int} (h : i.natAbs < 10 ^ 45) : Tg S n b hd hl (.int i) := by
  refine ⟨_, .int, by simp [PyData.depth], by simp [PyData.bulk], ?_, ?_, by simp [PyData.hasDict], by simp [hasLst]⟩
  · have h1 := int_text_length_le10 (k := 45) (by decide) h
    simp only [PyData.leavesShort, decide_eq_true_eq]
    show (Str.ofString (toString i)).length ≤ 50
    rw [PySem.ofString_length]
    omega
  · simp only [PyData.showable, decide_eq_true_eq]
    have : i.natAbs < 2 ^ 1920 := Nat.lt_of_lt_of_le h (by decide +kernel)
    by_cases h0 : i.natAbs = 0
    · rw [h0]; decide
    · exact (Nat.log2_lt h0).mpr this
theorem Tg.str {S : Sto} {n b : Nat} {hd hl : Bool} {x : Str} (h : Cs x) (hb : x.length ≤ b) : Tg S n b hd hl (.str x) := by
  refine ⟨_, .str, by simp [PyData.depth], by simpa [PyData.bulk, Str.length] using hb, ?_, rfl, by simp [PyData.hasDict], by simp [hasLst]⟩
  simp only [PyData.leavesShort, List.all_eq_true, decide_eq_true_eq]
  exact h
/-- values one behind another -/
structure Pgs (n b : Nat) (hd hl : Bool) (ps : List PyData) : Prop where
  dp : PyData.depthAll ps ≤ n
  bk : PyData.bulkAll ps ≤ b
  lv : PyData.leavesShortAll 50 ps = true
  sh : PyData.showableAll ps = true
  di : PyData.hasDictAll ps = true → hd = true
  li : hasLsts ps = true → hl = true
def Tgs (S : Sto) (n b : Nat) (hd hl : Bool) (ds : List D) : Prop := ∃ ps, Shws S ds ps ∧ Pgs n b hd hl ps
theorem Tgs.nil {S : Sto} {n b : Nat} {hd hl : Bool} : Tgs S n b hd hl [] := ⟨[], .nil, by simp [PyData.depthAll], by simp [PyData.bulkAll], by simp [PyData.leavesShortAll], by simp [PyData.showableAll], by simp [PyData.hasDictAll], by simp [hasLsts]⟩
theorem Tgs.cons {S : Sto} {n b c : Nat} {hd hl : Bool} {d : D} {ds : List D} (h : Tg S n b hd hl d) (g : Tgs S n c hd hl ds) : Tgs S n (b + 1 + c) hd hl (d :: ds) := by
  obtain ⟨p, x, y⟩ := h
  obtain ⟨ps, u, v⟩ := g
  refine ⟨p :: ps, .cons x u, ?_, ?_, ?_, ?_, ?_, ?_⟩
  · simp only [PyData.depthAll]; have := y.dp; have := v.dp; omega
  · simp only [PyData.bulkAll]; have := y.bk; have := v.bk; omega
  · simp [PyData.leavesShortAll, y.lv, v.lv]
  · simp [PyData.showableAll, y.sh, v.sh]
  · intro q
    simp only [PyData.hasDictAll, Bool.or_eq_true] at q
    exact q.elim y.di v.di
  · intro q
    simp only [hasLsts, Bool.or_eq_true] at q
    exact q.elim y.li v.li
theorem Tgs.le {S : Sto} {n b n' b' : Nat} {hd hl : Bool} {ds : List D} (h : Tgs S n b hd hl ds) (h1 : n ≤ n') (h2 : b ≤ b') : Tgs S n' b' hd hl ds :=
  let ⟨p, x, y⟩ := h
  ⟨p, x, by have := y.dp; omega, by have := y.bk; omega, y.lv, y.sh, y.di, y.li⟩
theorem Tgs.all {S : Sto} {n b : Nat} {hd hl : Bool} : ∀ {ds : List D}, (∀ d ∈ ds, Tg S n b hd hl d) → Tgs S n (ds.length * (b + 1)) hd hl ds
  | [], _ => .nil
  | d :: ds, h => by
    have e : (d :: ds).length * (b + 1) = b + 1 + ds.length * (b + 1) := by
      rw [List.length_cons, Nat.add_mul]
      omega
    rw [e]
    exact .cons (h d (by simp)) (Tgs.all fun c hc => h c (List.mem_cons_of_mem _ hc))
theorem Tgs.tup {S : Sto} {n b : Nat} {hd hl : Bool} {ds : List D} (h : Tgs S n b hd hl ds) : Tg S (n + 1) b hd hl (.tup ds) := by
  obtain ⟨ps, x, y⟩ := h
  exact ⟨_, .tup x, by simp only [PyData.depth]; have := y.dp; omega, by simp only [PyData.bulk]; exact y.bk, by simp only [PyData.leavesShort]; exact y.lv, by simp only [PyData.showable]; exact y.sh, by simp only [PyData.hasDict]; exact y.di, by simp only [hasLst]; exact y.li⟩
theorem Tgs.lst {S : Sto} {n b l : Nat} {hd : Bool} {ds : List D} (e : S[l]? = some (.lst ds)) (h : Tgs S n b hd true ds) : Tg S (n + 1) b hd true (.loc l) := by
  obtain ⟨ps, x, y⟩ := h
  exact ⟨_, .lst e x, by simp only [PyData.depth]; have := y.dp; omega, by simp only [PyData.bulk]; exact y.bk, by simp only [PyData.leavesShort]; exact y.lv, by simp only [PyData.showable]; exact y.sh, by simp only [PyData.hasDict]; exact y.di, fun _ => rfl⟩
/-- an object that is shown -/
def vis : O → Bool
  | .ins _ _ => false
  | _ => true
mutual
theorem Shw.mono {S S' : Sto} (g : ∀ (l : Nat) (o : O), vis o = true → S[l]? = some o → S'[l]? = some o) : ∀ {d : D} {p : PyData}, Shw S d p → Shw S' d p
  | _, _, .non => .non
  | _, _, .bl => .bl
  | _, _, .int => .int
  | _, _, .str => .str
  | _, _, .tup t => .tup (Shws.mono g t)
  | _, _, .fls t => .fls (Shws.mono g t)
  | _, _, .lst e t => .lst (g _ _ rfl e) (Shws.mono g t)
  | _, _, .dct e t u => .dct (g _ _ rfl e) (Shws.mono g t) (Shws.mono g u)
theorem Shws.mono {S S' : Sto} (g : ∀ (l : Nat) (o : O), vis o = true → S[l]? = some o → S'[l]? = some o) : ∀ {ds : List D} {ps : List PyData}, Shws S ds ps → Shws S' ds ps
  | _, _, .nil => .nil
  | _, _, .cons t ts => .cons (Shw.mono g t) (Shws.mono g ts)
end
/-- the store from m on -/
def blind (m : Nat) (S : Sto) : Sto := List.replicate m (.ins ⟨#[]⟩ []) ++ S.drop m
theorem blind_get {m l : Nat} {S : Sto} {o : O} (h : (blind m S)[l]? = some o) (hv : vis o = true) : m ≤ l ∧ S[l]? = some o := by
  unfold blind at h
  by_cases hl : l < m
  · rw [List.getElem?_append_left (by simpa using hl), List.getElem?_replicate, if_pos hl] at h
    cases h
    cases hv
  · rw [List.getElem?_append_right (by simp; omega), List.getElem?_drop] at h
    refine ⟨by omega, ?_⟩
    simpa [show m + (l - m) = l by omega] using h
theorem get_blind {m l : Nat} {S : Sto} {o : O} (hm : m ≤ l) (h : S[l]? = some o) : (blind m S)[l]? = some o := by
  unfold blind
  rw [List.getElem?_append_right (by simp; omega), List.getElem?_drop]
  simpa [show m + (l - m) = l by omega] using h
theorem Tg.mono {S S' : Sto} {n b : Nat} {hd hl : Bool} {d : D} (g : ∀ (l : Nat) (o : O), vis o = true → S[l]? = some o → S'[l]? = some o) (h : Tg S n b hd hl d) : Tg S' n b hd hl d :=
  let ⟨p, x, y⟩ := h
  ⟨p, x.mono g, y⟩
theorem bulk_mem : ∀ {ps : List PyData}, ps.length ≤ PyData.bulkAll ps
  | [] => by simp
  | p :: ps => by
    have := bulk_mem (ps := ps)
    simp only [PyData.bulkAll, List.length_cons]
    omega
theorem Shws.len {S : Sto} : ∀ {ds : List D} {ps : List PyData}, Shws S ds ps → ds.length = ps.length
  | _, _, .nil => rfl
  | _, _, .cons _ t => by simp [t.len]
/-- str(d) stands for p -/
theorem shown_at {S : Sto} {n b : Nat} {hd hl : Bool} {d : D} {p : PyData} {R : DQ} (h : Shw S d p) (g : Pg n b hd hl p) (hn : n ≤ 150) (hb : b ≤ 300000) (hf : hd = false ∨ hl = false) (q : R (.str (match d with | .str x => x | _ => p.shown)) S) : dStrA [d] S R := by
  cases d with
  | str x => simpa using q
  | _ =>
    refine dStrA_shw h rfl ⟨g.sh, ?_, Nat.le_trans g.dp hn, ?_⟩ q
    · rcases hf with rfl | rfl
      · left
        cases e : p.hasDict with
        | false => rfl
        | true => exact absurd (g.di e) (by simp)
      · right
        cases e : hasLst p with
        | false => rfl
        | true => exact absurd (g.li e) (by simp)
    · have h1 := PyData.shown_le_bulk 50 (by decide) p g.lv
      have h2 := g.bk
      have h3 : (50 + 2) * p.bulk ≤ 52 * 300000 := Nat.mul_le_mul (by decide) (by omega)
      have : sizeLine = 16777216 := sizeLine_eq
      omega
end Dl

namespace Dl
open PySem L2

/-! ## ranges, filtered comprehensions, methods of lists, in of plain values -/
theorem rangeD_split {lo : Int} {n : Nat} {d : D} {r : List D} (h : d :: r = rangeD lo n) : d = .int lo ∧ r = rangeD (lo + 1) (n - 1) ∧ 0 < n := by
  cases n with
  | zero => simp [rangeD] at h
  | succ n =>
    rw [rangeD, List.range_succ_eq_map, List.map_cons, List.map_map] at h
    injection h with h1 h2
    refine ⟨by simpa using h1, ?_, by omega⟩
    rw [h2, rangeD]
    simp only [Nat.add_sub_cancel]
    apply List.map_congr_left
    intro i _
    simp
    omega
theorem lc_filt_go {α : Type} {chk : Sto → Prop} {g : WG} {t : WT} {e : WE} {τ : DEnv} {R : DQ} {I : Sto → Prop} {gd h : α → D} {p : α → Bool} : ∀ {as : List α} {acc : List D} {S : Sto}, I S → (∀ S', I S' → chk S') → acc.length + as.length ≤ sizeLine →
    (∀ a S' (K1 : DQ) (K2 : Sto → Prop), a ∈ as → I S' → (p a = true → ∀ S'', I S'' → K1 (h a) S'') → (p a = false → ∀ S'', I S'' → K2 S'') → g (gd a) τ S' fun τ1 S1 => t τ1 S1 fun b S2 => if b = true then e τ1 S2 K1 else K2 S2) →
    (∀ S', I S' → R (.loc S'.length) (S' ++ [.lst (acc ++ (as.filter p).map h)])) → lcGo chk g t e τ R (as.map gd) acc S
  | [], acc, S, hI, hc, hl, hs, h0 => ⟨hc _ hI, by simpa using h0 S hI⟩
  | d :: r, acc, S, hI, hc, hl, hs, h0 => ⟨hc _ hI, by
    simp only [List.length_cons] at hl
    refine hs d S _ _ List.mem_cons_self hI (fun hp S'' I' => ⟨by omega, ?_⟩) fun hp S'' I' => ?_
    · refine lc_filt_go I' hc (by simp only [List.length_append, List.length_cons, List.length_nil]; omega) (fun d S' K1 K2 hd => hs d S' K1 K2 (List.mem_cons_of_mem _ hd)) fun S' I2 => ?_
      have := h0 S' I2
      simpa [List.filter_cons, hp] using this
    · refine lc_filt_go I' hc (by omega) (fun d S' K1 K2 hd => hs d S' K1 K2 (List.mem_cons_of_mem _ hd)) fun S' I2 => ?_
      have := h0 S' I2
      simpa [List.filter_cons, hp] using this⟩
/-- [e for g in items if t] -/
theorem lc_filt {α : Type} {chk : Sto → Prop} {g : WG} {t : WT} {e : WE} {τ : DEnv} {R : DQ} {as : List α} {S : Sto} (gd h : α → D) (p : α → Bool) (I : Sto → Prop) (hI : I S) (hc : ∀ S', I S' → chk S') (hl : as.length ≤ sizeLine)
    (hs : ∀ a S' (K1 : DQ) (K2 : Sto → Prop), a ∈ as → I S' → (p a = true → ∀ S'', I S'' → K1 (h a) S'') → (p a = false → ∀ S'', I S'' → K2 S'') → g (gd a) τ S' fun τ1 S1 => t τ1 S1 fun b S2 => if b = true then e τ1 S2 K1 else K2 S2)
    (h0 : ∀ S', I S' → R (.loc S'.length) (S' ++ [.lst ((as.filter p).map h)])) : lcGo chk g t e τ R (as.map gd) [] S :=
  lc_filt_go hI hc (by simpa using hl) hs (by simpa using h0)
section
variable {S : Sto} {R : DQ} {i j : Nat} {xs ys : List D} {d c : D}
theorem dExtend_locs (h : S[i]? = some (.lst xs)) (g : S[j]? = some (.lst ys)) : dExtend (.loc i) [.loc j] S R = (xs.length + ys.length ≤ sizeLine ∧ R .non (S.set i (.lst (xs ++ ys)))) := by simp [dExtend, h, g]
theorem dReverse_loc (h : S[i]? = some (.lst xs)) : dReverse (.loc i) [] S R = R .non (S.set i (.lst xs.reverse)) := by simp [dReverse, h]
theorem dClear_loc (h : S[i]? = some (.lst xs)) : dClear (.loc i) [] S R = R .non (S.set i (.lst [])) := by simp [dClear, h]
theorem dPop_loc (h : S[i]? = some (.lst xs)) : dPop (.loc i) [] S R = ∃ y, xs[xs.length - 1]? = some y ∧ R y (S.set i (.lst xs.dropLast)) := by simp [dPop, h]
theorem dInsert_loc {n : Int} (h : S[i]? = some (.lst xs)) : dInsert (.loc i) [.int n, d] S R = (xs.length < sizeLine ∧ 0 ≤ n ∧ n < 2 ^ 63 ∧ R .non (S.set i (.lst (xs.take n.toNat ++ [d] ++ xs.drop n.toNat)))) := by simp [dInsert, h]
theorem inKeys_plain {n : Nat} {k : NestedKey} (hd : plainD n d = true) (h1 : keyOf d = some k) : ∀ {xs : List D} {ks : List NestedKey}, plainsD n xs = true → keyOf.keysOf xs = some ks → inKeys k ks = decide (d ∈ xs)
  | [], ks, _, h => by
    cases (show some [] = some ks from h)
    simp [inKeys]
  | x :: xs, ks, hp, h => by
    unfold keyOf.keysOf at h
    simp only [plainsD, Bool.and_eq_true] at hp
    cases e1 : keyOf x with
    | none => rw [e1] at h; cases h
    | some k2 =>
      cases e2 : keyOf.keysOf xs with
      | none => rw [e1, e2] at h; cases h
      | some ks2 =>
        rw [e1, e2] at h
        cases h
        have ih := inKeys_plain hd h1 hp.2 e2
        have e3 : NestedKey.beq k2 k = decide (x = d) := by
          cases q : NestedKey.beq k2 k with
          | true =>
            have := NestedKey.eq_of_beq k2 k q
            subst this
            exact (decide_eq_true (key_inj n x d k2 hp.1 hd e1 h1)).symm
          | false =>
            refine (decide_eq_false fun z => ?_).symm
            subst z
            rw [e1] at h1
            cases h1
            rw [NestedKey.beq_self] at q
            cases q
        unfold inKeys at ih ⊢
        rw [List.any_cons, ih, e3, Bool.eq_iff_iff]
        simp only [Bool.or_eq_true, decide_eq_true_eq, List.mem_cons]
        exact or_congr ⟨Eq.symm, Eq.symm⟩ Iff.rfl
theorem inD_plain (h : seqD S c = some xs) (hd : plainD 100 d = true) (hx : plainsD 100 xs = true) : inD S d c = some (decide (d ∈ xs)) := by
  obtain ⟨k, h1, h2⟩ := key_plain 100 d hd
  obtain ⟨ks, h3, _⟩ := keys_plain 100 xs hx
  unfold inD
  simp only [h, h1, h3]
  rw [if_pos h2, inKeys_plain hd h1 hx h3]
theorem dIn_plain (h : seqD S c = some xs) (hd : plainD 100 d = true) (hx : plainsD 100 xs = true) (q : R (.bl (decide (d ∈ xs))) S) : dIn d c S R := .inl (.inl ⟨_, inD_plain h hd hx, q⟩)
theorem dNotIn_plain (h : seqD S c = some xs) (hd : plainD 100 d = true) (hx : plainsD 100 xs = true) (q : R (.bl (!decide (d ∈ xs))) S) : dNotIn d c S R := .inl (.inl ⟨_, inD_plain h hd hx, q⟩)
theorem plains_strs {n : Nat} : ∀ ws : List Str, plainsD n (ws.map D.str) = true
  | [] => by simp [plainsD]
  | w :: ws => by simp [plainsD, plainD, plains_strs ws]
theorem mem_strs {x : Str} {ws : List Str} : D.str x ∈ ws.map D.str ↔ x ∈ ws := by simp
end
/-- str(d), asked again and again -/
theorem Tg.text {S : Sto} {n b : Nat} {hd hl : Bool} {d : D} (h : Tg S n b hd hl d) (hn : n ≤ 150) (hb : b ≤ 300000) (hf : hd = false ∨ hl = false) :
    ∃ tx : Str, ∀ (S' : Sto), (∀ (l : Nat) (o : O), vis o = true → S[l]? = some o → S'[l]? = some o) → ∀ R : DQ, R (.str tx) S' → dStrA [d] S' R := by
  obtain ⟨p, x, y⟩ := h
  cases d with
  | str z => exact ⟨z, fun S' g R q => shown_at (x.mono g) y hn hb hf q⟩
  | _ => exact ⟨p.shown, fun S' g R q => shown_at (x.mono g) y hn hb hf q⟩
end Dl

namespace Dl
open PySem L2 PyProof.Rows PySem.Spec

/-! ## dict(d): a copy of a dict whose keys are texts -/
/-- a key that is a text, and its value, as the machine has them -/
def TxE (X : Cx) (ρ : List Addr) (H : Hp) (p : D × D) (q : Str × Value) : Prop := p.1 = .str q.1 ∧ ∃ dv, VR X.K ρ H p.2 dv ∧ RelV dv q.2
section
variable {X : Cx} {pins : List (Addr × Obj)} {σ : L2.St} {H : Hp} {s : Shared} {ρ : List Addr} {S : Sto} {l : Nat} {a : Addr} {kvs : List (D × D)} {ep : Nat}
theorem txE_of : ∀ {kvs : List (D × D)} {es : List DictEntry}, (∀ p ∈ kvs, ∃ x, p.1 = .str x) → Paired (EntR X.w X.K ρ H) kvs es → ∃ qs, Pairs (strKind X.prog X.w) es qs ∧ Paired (TxE X ρ H) kvs qs
  | _, _, _, .nil => ⟨[], .nil, .nil⟩
  | p :: kvs, e :: es, hk, .cons r t => by
    obtain ⟨qs, h1, h2⟩ := txE_of (fun p hp => hk p (List.mem_cons_of_mem _ hp)) t
    obtain ⟨x, hx⟩ := hk p List.mem_cons_self
    obtain ⟨k, kv, dv, g1, _, g3, g4, g5, g6, g7⟩ := r
    rw [hx] at g1 g4
    cases (show some (NestedKey.text x) = some k from g1)
    cases g4.str_of
    obtain ⟨t2, ht⟩ := (show ∃ t, e.key = Value.str x t from g5)
    have hi : (strKind X.prog X.w).is x e.key = true := by
      rw [ht]
      show Value.isStrOf x (Value.str x t2) = true
      simp [Value.isStrOf]
    exact ⟨(x, e.val) :: qs, .cons hi rfl h1, .cons ⟨hx, dv, g6, g7⟩ h2⟩
theorem txE_nodup : ∀ {kvs : List (D × D)} {qs : List (Str × Value)}, Paired (TxE X ρ H) kvs qs → (kvs.map fun p => keyOf p.1) = qs.map fun q => some (NestedKey.text q.1)
  | _, _, .nil => rfl
  | _, _, .cons r t => by
    rw [List.map_cons, List.map_cons, txE_nodup t, r.1]
    rfl
theorem nodup_of_some {α β : Type} {f : α → β} : ∀ {l : List α}, (l.map f).Nodup → ∀ g : β → α, (∀ a, g (f a) = a) → l.Nodup := fun h g hg => by
  have := h
  rw [List.nodup_iff_pairwise_ne] at this ⊢
  rw [List.pairwise_map] at this
  exact this.imp fun ne e => ne (by rw [e])
theorem tx_keys {es : Array DictEntry} (hk : ∀ p ∈ kvs, ∃ x, p.1 = .str x) (pr : Paired (EntR X.w X.K ρ H) kvs es.toList) : PySem.KeysOf (strKind X.prog X.w) es := by
  intro e he
  obtain ⟨j, hj⟩ := List.mem_iff_getElem?.mp (Array.mem_toList_iff.mpr he)
  obtain ⟨p, hp, k, kv, dv, g1, _, g3, g4, g5, _, _⟩ := paired_get2 pr hj
  obtain ⟨x, hx⟩ := hk p (List.mem_of_getElem? hp)
  rw [hx] at g1 g4
  cases (show some (NestedKey.text x) = some k from g1)
  cases g4.str_of
  obtain ⟨t2, ht⟩ := (show ∃ t, e.key = Value.str x t from g5)
  refine ⟨x, ?_, g3⟩
  rw [ht]
  show Value.isStrOf x (Value.str x t2) = true
  simp [Value.isStrOf]
/-- a dict of texts of the store, as the library has it -/
theorem tx_dict (I : L2.Inv X pins σ H s) (h : OR X.w X.K X.mg ρ H a (.dct ep kvs)) (hk : ∀ p ∈ kvs, ∃ x, p.1 = .str x) :
    ∃ qs, (a == sysModules) = false ∧ kvs.length ≤ sizeLine ∧ s.heap.DictOf (strKind X.prog X.w) a qs ∧ Paired (TxE X ρ H) kvs qs := by
  obtain ⟨h1, h2, h3, es, h4, h5⟩ := h
  obtain ⟨o, ho, hx, hd⟩ := (I.hok a _ h4).1
  obtain ⟨qs, g1, g2⟩ := txE_of hk h5
  refine ⟨qs, h1, h2, ⟨o, es, ep, ho, hx, hd, tx_keys hk h5, g1, ?_⟩, g2⟩
  rw [txE_nodup g2] at h3
  have e : (qs.map fun q => some (NestedKey.text q.1)) = (qs.map (·.1)).map fun x => some (NestedKey.text x) := by rw [List.map_map]; rfl
  rw [e] at h3
  exact nodup_of_some h3 (fun k => match k with | some (.text x) => x | _ => ⟨#[]⟩) fun _ => rfl
theorem tx_ent : ∀ {kvs : List (D × D)} {qs : List (Str × Value)} {es : List DictEntry}, Paired (TxE X ρ H) kvs qs → Pairs (strKind X.prog X.w) es qs → (∀ e ∈ es, ∃ k, (strKind X.prog X.w).is k e.key = true ∧ e.hash = (strKind X.prog X.w).hash k) → Paired (EntR X.w X.K ρ H) kvs es
  | _, _, _, .nil, .nil, _ => .nil
  | p :: _, q :: _, e :: _, .cons ⟨r1, dv, r2, r3⟩ t, .cons g1 g2 t2, hk => by
    refine .cons ⟨.text q.1, .str q.1, dv, by rw [r1]; rfl, Nat.zero_le _, ?_, by rw [r1]; exact .str, ?_, r2, by rw [g2]; exact r3⟩ (tx_ent t t2 fun e he => hk e (List.mem_cons_of_mem _ he))
    · obtain ⟨k, k1, k2⟩ := hk e List.mem_cons_self
      have := Value.isStrOf_inj _ _ _ k1 g1
      rw [k2, this]
      rfl
    · exact Value.isStrOf_shape g1
/-- dict(d) -/
def dDictC : DCall := fun ds S R => ∃ l ep kvs, ds = [.loc l] ∧ S[l]? = some (.dct ep kvs) ∧ (∀ p ∈ kvs, ∃ x, p.1 = .str x) ∧ ∀ ep', R (.loc S.length) (S ++ [.dct ep' kvs])
theorem cd_dictC : CallR X (.type "dict") (rCD X dDictC) := by
  intro pins s σ H xs us Q I rs ⟨ρ, S, ds, R, W, r, ⟨l, ep, kvs, e1, h1, hk, q⟩, p⟩
  subst e1
  obtain ⟨v, rfl, rv⟩ := r.one_of
  obtain ⟨a, h3, rfl⟩ := rv.loc_of
  cases rs with
  | @cons _ u _ _ r3 t =>
  cases t
  cases (show u = Value.ref a from r3)
  have hO := W.obj l a _ h3 h1
  obtain ⟨qs, g1, g2, g3, g4⟩ := tx_dict I hO hk
  obtain ⟨_, _, hnd, _⟩ := hO
  have hl : qs.length = kvs.length := by have := congrArg List.length (txE_nodup g4); simpa using this.symm
  refine kt_call_dict g1 g3 (by rw [hl]; exact g2) fun h' hd hs => ?_
  obtain ⟨o, es, ep', ho, hx, hdat, hks, hpr, _⟩ := hd
  have hn := I.hok.fresh (Nat.le_refl s.heap.objs.size)
  have hob : DictObj s.heap.objs.size es ep' h' := ⟨o, ho, hx, hdat⟩
  have I1 := I.laid (a := s.heap.objs.size) (o := .ext (DictObj s.heap.objs.size es ep')) (h' := h') (t' := s.toks) (fun b o q => (hs.2 b (Nat.ne_of_lt (Heap.lt_size q))).trans (Heap.get?_push_of_some _ q)) (Nat.le_refl _) (ext_ok hob)
  refine ⟨.ref s.heap.objs.size, _, I1, rfl, ?_⟩
  have vx := (ext_alloc (ρ := ρ) (u := .ext (DictObj s.heap.objs.size es ep')) hn).vx W.sep
  refine p _ _ (q ep') _ _ _ (ext_alloc hn) (W.alloc hn ⟨sys_new I.big, g2, hnd, es, upd_same, ?_⟩) (.loc (by rw [← W.len]; exact List.getElem?_concat_length ..))
  refine Paired.mapP (tx_ent g4 hpr fun e he => ?_) fun p e z => z.vx vx
  exact hks e (Array.mem_toList_iff.mp he)
/-- list(d): the keys -/
def dListK : DCall := fun ds S R => ∃ l ep kvs, ds = [.loc l] ∧ S[l]? = some (.dct ep kvs) ∧ R (.loc S.length) (S ++ [.lst (kvs.map (·.1))])
theorem vals_at {vs : List V} : ∀ {us : List Value}, us.length = vs.length → (∀ (j : Nat) (u : Value), us[j]? = some u → ∃ v, vs[j]? = some v ∧ RelV v u) → Vals vs us := by
  induction vs with
  | nil =>
    intro us h _
    cases us with
    | nil => exact .nil
    | cons _ _ => simp at h
  | cons v vs ih =>
    intro us h f
    cases us with
    | nil => simp at h
    | cons u us =>
      obtain ⟨v', e, r⟩ := f 0 u rfl
      cases (show some v = some v' from e)
      exact .cons r (ih (by simpa using h) fun j u e => f (j + 1) u e)
theorem vals_ix {vs : List V} {us : List Value} (h : Vals vs us) : ∀ {j : Nat} {u : Value}, us[j]? = some u → ∃ v, vs[j]? = some v ∧ RelV v u := by
  induction h with
  | nil => intro j u e; simp at e
  | cons r _ ih =>
    intro j u e
    cases j with
    | zero =>
      cases e
      exact ⟨_, rfl, r⟩
    | succ j => exact ih (j := j) e
theorem cd_listK (hc : X.calm = true) : CallR X (.type "list") (rCD X dListK) := by
  intro pins s σ H xs us Q I rs ⟨ρ, S, ds, R, W, r, ⟨l, ep, kvs, e1, h1, q⟩, p⟩
  subst e1
  obtain ⟨v, rfl, rv⟩ := r.one_of
  obtain ⟨a, h3, rfl⟩ := rv.loc_of
  cases rs with
  | @cons _ u _ _ r3 t =>
  cases t
  cases (show u = Value.ref a from r3)
  obtain ⟨es, ks, T⟩ := dat_of I (W.obj l a _ h3 h1)
  have hsz : es.size ≤ sizeLine := by rw [T.size]; exact T.le
  obtain ⟨⟨vs, a1, a2⟩, _⟩ := ent_two (X := X) T.pr
  refine PySem.W.kdl_call (KdlSrc.rawDict T.sys) (I.ok.hd hc) T.rw.ob hsz fun h' tk acc c hkeep hat hacc => ?_
  have hn := I.hok.fresh (Nat.le_refl s.heap.objs.size)
  have hlen : vs.length = kvs.length := by have := a1.length; simpa using this
  have hv : Vals vs acc.toList := vals_at (by rw [hlen, ← T.size, ← hacc.1]; simp) fun j u e => by
    obtain ⟨hi, e2⟩ := hacc.2 j u (by rw [← Array.getElem?_toList]; exact e)
    refine vals_ix a2 (j := j) ?_
    rw [List.getElem?_map, Array.getElem?_toList, Array.getElem?_eq_getElem hi, e2]
    rfl
  have I1 := I.laid (a := s.heap.objs.size) (o := .lst vs) (h' := h') (t' := tk) (fun b o q => hkeep b o q) (Nat.le_refl _) ⟨by rw [hlen]; exact T.le, acc.toList, c, hv, by rw [Array.toArray_toList]; exact hat⟩
  exact ⟨.ref s.heap.objs.size, _, I1, rfl, new_lst W a1 q p hn⟩
def dListA : DCall := callOr dList dListK
theorem cd_listA (hc : X.calm = true) : CallR X (.type "list") (rCD X dListA) := CallD.or cd_list (cd_listK hc)
end
section
variable {S : Sto} {R : DQ} {i l ep : Nat} {xs : List D} {d : D} {kvs : List (D × D)}
theorem dListA_seq (h : seqD S d = some xs) (q : R (.loc S.length) (S ++ [.lst xs])) : dListA [d] S R := .inl ⟨d, xs, rfl, h, q⟩
theorem dListA_dct (h : S[l]? = some (.dct ep kvs)) : dListA [.loc l] S R = R (.loc S.length) (S ++ [.lst (kvs.map (·.1))]) := by
  simp [dListA, callOr, dList, dListK, seqD, h]
@[simp] theorem dListA_tup : dListA [.tup xs] S R = R (.loc S.length) (S ++ [.lst xs]) := by simp [dListA, callOr, dList, dListK]
@[simp] theorem dListA_fls : dListA [.fls xs] S R = R (.loc S.length) (S ++ [.lst xs]) := by simp [dListA, callOr, dList, dListK]
theorem dListA_loc (h : S[l]? = some (.lst xs)) : dListA [.loc l] S R = R (.loc S.length) (S ++ [.lst xs]) := by
  simp [dListA, callOr, dList, dListK, seqD, h]
theorem dDictC_loc (h : S[l]? = some (.dct ep kvs)) (hk : ∀ p ∈ kvs, ∃ x, p.1 = .str x) (q : ∀ ep', R (.loc S.length) (S ++ [.dct ep' kvs])) : dDictC [.loc l] S R := ⟨l, ep, kvs, rfl, h, hk, q⟩
end
end Dl

namespace Dl
open PySem L2 PyProof.Rows PySem.Spec

/-! ## an order of plain values -/
mutual
def cmpT : D → D → Ordering
  | .non, .non => .eq
  | .non, _ => .lt
  | .int a, .int b => if a < b then .lt else if b < a then .gt else .eq
  | .int _, .non => .gt
  | .int _, _ => .lt
  | .str x, .str y => if x.cps.toList < y.cps.toList then .lt else if y.cps.toList < x.cps.toList then .gt else .eq
  | .str _, .tup _ => .lt
  | .str _, _ => .gt
  | .tup xs, .tup ys => cmpTs xs ys
  | _, _ => .gt
def cmpTs : List D → List D → Ordering
  | [], [] => .eq
  | [], _ :: _ => .lt
  | _ :: _, [] => .gt
  | d :: ds, c :: cs => match cmpT d c with
    | .eq => cmpTs ds cs
    | o => o
end
mutual
/-- whole numbers, texts, None, tuples of these -/
def pureD : D → Bool
  | .non => true
  | .int _ => true
  | .str _ => true
  | .tup ds => puresD ds
  | _ => false
def puresD : List D → Bool
  | [] => true
  | d :: ds => pureD d && puresD ds
end
theorem str_toList {x y : Str} (h : x.cps.toList = y.cps.toList) : x = y := by
  obtain ⟨a⟩ := x
  obtain ⟨b⟩ := y
  simp only at h
  rw [Array.toList_inj.mp h]
theorem if3 {p q : Prop} [Decidable p] [Decidable q] : (if p then Ordering.lt else if q then .gt else .eq) = .eq ↔ ¬ p ∧ ¬ q := by
  by_cases hp : p <;> by_cases hq : q <;> simp [hp, hq]
mutual
theorem cmpT_eq : ∀ d c : D, pureD d = true → pureD c = true → (cmpT d c = .eq ↔ d = c)
  | .non, c, _, hc => by cases c <;> simp [cmpT, pureD] at hc ⊢
  | .int a, c, _, hc => by
    cases c with
    | int b =>
      rw [cmpT, if3, D.int.injEq]
      omega
    | _ => simp [cmpT, pureD] at hc ⊢
  | .str x, c, _, hc => by
    cases c with
    | str y =>
      rw [cmpT, if3, D.str.injEq]
      refine ⟨fun ⟨h1, h2⟩ => str_toList (List.le_antisymm (List.not_lt.mp h2) (List.not_lt.mp h1)), fun e => ?_⟩
      subst e
      exact ⟨List.lt_irrefl _, List.lt_irrefl _⟩
    | _ => simp [cmpT, pureD] at hc ⊢
  | .tup xs, c, hd, hc => by
    cases c with
    | tup ys =>
      rw [cmpT, D.tup.injEq]
      exact cmpTs_eq xs ys (by simpa [pureD] using hd) (by simpa [pureD] using hc)
    | _ => simp [cmpT, pureD] at hc ⊢
  | .bl _, c, hd, _ => by simp [pureD] at hd
  | .fls _, c, hd, _ => by simp [pureD] at hd
  | .loc _, c, hd, _ => by simp [pureD] at hd
theorem cmpTs_eq : ∀ ds cs : List D, puresD ds = true → puresD cs = true → (cmpTs ds cs = .eq ↔ ds = cs)
  | [], [], _, _ => by simp [cmpTs]
  | [], _ :: _, _, _ => by simp [cmpTs]
  | _ :: _, [], _, _ => by simp [cmpTs]
  | d :: ds, c :: cs, hd, hc => by
    simp only [puresD, Bool.and_eq_true] at hd hc
    have h1 := cmpT_eq d c hd.1 hc.1
    have h2 := cmpTs_eq ds cs hd.2 hc.2
    rw [cmpTs, List.cons.injEq, ← h1, ← h2]
    cases cmpT d c <;> simp
end
theorem if3_swap {p q : Prop} [Decidable p] [Decidable q] (h : p → ¬ q) : (if q then Ordering.lt else if p then .gt else .eq) = (if p then Ordering.lt else if q then .gt else .eq).swap := by
  by_cases hp : p
  · have := h hp
    simp [hp, this]
  · by_cases hq : q <;> simp [hp, hq]
mutual
theorem cmpT_swap : ∀ d c : D, pureD d = true → pureD c = true → cmpT c d = (cmpT d c).swap
  | .non, c, _, hc => by cases c <;> simp [cmpT, pureD] at hc ⊢
  | .int a, c, _, hc => by
    cases c with
    | int b =>
      rw [cmpT, cmpT]
      exact if3_swap fun h => by omega
    | _ => simp [cmpT, pureD] at hc ⊢
  | .str x, c, _, hc => by
    cases c with
    | str y =>
      rw [cmpT, cmpT]
      exact if3_swap fun h => List.not_lt.mpr (List.le_of_lt h)
    | _ => simp [cmpT, pureD] at hc ⊢
  | .tup xs, c, hd, hc => by
    cases c with
    | tup ys =>
      rw [cmpT, cmpT]
      exact cmpTs_swap xs ys (by simpa [pureD] using hd) (by simpa [pureD] using hc)
    | _ => simp [cmpT, pureD] at hc ⊢
  | .bl _, c, hd, _ => by simp [pureD] at hd
  | .fls _, c, hd, _ => by simp [pureD] at hd
  | .loc _, c, hd, _ => by simp [pureD] at hd
theorem cmpTs_swap : ∀ ds cs : List D, puresD ds = true → puresD cs = true → cmpTs cs ds = (cmpTs ds cs).swap
  | [], [], _, _ => by simp [cmpTs]
  | [], _ :: _, _, _ => by simp [cmpTs]
  | _ :: _, [], _, _ => by simp [cmpTs]
  | d :: ds, c :: cs, hd, hc => by
    simp only [puresD, Bool.and_eq_true] at hd hc
    rw [cmpTs, cmpTs, cmpT_swap d c hd.1 hc.1, cmpTs_swap ds cs hd.2 hc.2]
    cases cmpT d c <;> simp
end
theorem if3_lt {p q : Prop} [Decidable p] [Decidable q] : (if p then Ordering.lt else if q then .gt else .eq) = .lt ↔ p := by
  by_cases hp : p <;> by_cases hq : q <;> simp [hp, hq]
mutual
theorem cmpT_trans : ∀ d c b : D, pureD d = true → pureD c = true → pureD b = true → cmpT d c = .lt → cmpT c b = .lt → cmpT d b = .lt
  | .non, c, b, _, hc, hb, h1, h2 => by
    cases c <;> cases b <;> simp [cmpT, pureD] at h1 h2 hc hb ⊢
  | .int a, c, b, _, hc, hb, h1, h2 => by
    cases c with
    | int c =>
      cases b with
      | int b =>
        rw [cmpT, if3_lt] at h1 h2 ⊢
        omega
      | _ => simp [cmpT, pureD] at h1 h2 hb ⊢
    | _ => cases b <;> simp [cmpT, pureD] at h1 h2 hc hb ⊢
  | .str x, c, b, _, hc, hb, h1, h2 => by
    cases c with
    | str c =>
      cases b with
      | str b =>
        rw [cmpT, if3_lt] at h1 h2 ⊢
        exact List.lt_trans h1 h2
      | _ => simp [cmpT, pureD] at h1 h2 hb ⊢
    | _ => cases b <;> simp [cmpT, pureD] at h1 h2 hc hb ⊢
  | .tup xs, c, b, hd, hc, hb, h1, h2 => by
    cases c with
    | tup ys =>
      cases b with
      | tup zs =>
        rw [cmpT] at h1 h2 ⊢
        exact cmpTs_trans xs ys zs (by simpa [pureD] using hd) (by simpa [pureD] using hc) (by simpa [pureD] using hb) h1 h2
      | _ => simp [cmpT] at h2
    | _ => simp [cmpT] at h1
  | .bl _, c, b, hd, _, _, _, _ => by simp [pureD] at hd
  | .fls _, c, b, hd, _, _, _, _ => by simp [pureD] at hd
  | .loc _, c, b, hd, _, _, _, _ => by simp [pureD] at hd
theorem cmpTs_trans : ∀ ds cs bs : List D, puresD ds = true → puresD cs = true → puresD bs = true → cmpTs ds cs = .lt → cmpTs cs bs = .lt → cmpTs ds bs = .lt
  | [], [], _, _, _, _, h1, _ => by simp [cmpTs] at h1
  | _ :: _, [], _, _, _, _, h1, _ => by simp [cmpTs] at h1
  | _, _ :: _, [], _, _, _, _, h2 => by simp [cmpTs] at h2
  | [], _ :: _, _ :: _, _, _, _, _, _ => by simp [cmpTs]
  | d :: ds, c :: cs, b :: bs, hd, hc, hb, h1, h2 => by
    simp only [puresD, Bool.and_eq_true] at hd hc hb
    rw [cmpTs] at h1 h2 ⊢
    cases e1 : cmpT d c with
    | gt => simp [e1] at h1
    | eq =>
      have := (cmpT_eq d c hd.1 hc.1).mp e1
      subst this
      simp only [e1] at h1
      cases e2 : cmpT d b with
      | gt => simp [e2] at h2
      | lt => simp
      | eq =>
        simp only [e2] at h2 ⊢
        exact cmpTs_trans ds cs bs hd.2 hc.2 hb.2 h1 h2
    | lt =>
      cases e2 : cmpT c b with
      | gt => simp [e2] at h2
      | lt => simp [cmpT_trans d c b hd.1 hc.1 hb.1 e1 e2]
      | eq =>
        have := (cmpT_eq c b hc.1 hb.1).mp e2
        subst this
        simp [e1]
end
def ltT (d c : D) : Bool := cmpT d c == .lt
theorem ltT_iff {d c : D} : ltT d c = true ↔ cmpT d c = .lt := by simp [ltT]
theorem ltT_asym {d c : D} (hd : pureD d = true) (hc : pureD c = true) (h : ltT d c = true) : ltT c d = false := by
  rw [ltT_iff] at h
  rw [ltT, cmpT_swap d c hd hc, h]
  rfl
theorem ltT_tri {d c : D} (hd : pureD d = true) (hc : pureD c = true) (h1 : ltT d c = false) (h2 : ltT c d = false) : d = c := by
  rw [← cmpT_eq d c hd hc]
  rw [ltT, cmpT_swap d c hd hc] at h2
  rw [ltT] at h1
  cases e : cmpT d c with
  | eq => rfl
  | lt => simp [e] at h1
  | gt => simp [e] at h2
theorem ltT_neg {d c b : D} (hd : pureD d = true) (hc : pureD c = true) (hb : pureD b = true) (h1 : ltT d c = false) (h2 : ltT c b = false) : ltT d b = false := by
  cases e : ltT d b with
  | false => rfl
  | true =>
    cases e1 : ltT c d with
    | false =>
      have := ltT_tri hd hc h1 e1
      subst this
      rw [e] at h2
      cases h2
    | true =>
      have := cmpT_trans c d b hc hd hb (ltT_iff.mp e1) (ltT_iff.mp e)
      rw [ltT, this] at h2
      cases h2
theorem ltT_self (d : D) (hd : pureD d = true) : ltT d d = false := by
  cases e : ltT d d with
  | false => rfl
  | true => rw [ltT_asym hd hd e] at e; cases e
theorem swo_D {rd : Value → D} (h : ∀ v, pureD (rd v) = true) : SrtO.Swo fun u v => ltT (rd u) (rd v) := ⟨fun x y e => ltT_asym (h x) (h y) e, fun x y z h1 h2 => ltT_neg (h z) (h y) (h x) h2 h1⟩

/-! ### values read as such -/
mutual
inductive PlV (h : Heap) : D → Value → Prop
  | non : PlV h .non .none
  | int {i : Int} {t : Tok} : PlV h (.int i) (.int i t)
  | str {x : Str} {t : Tok} : PlV h (.str x) (.str x t)
  | tup {ds : List D} {a : Addr} {us : Array Value} : h.IsTuple a us → PlVs h ds us.toList → PlV h (.tup ds) (.ref a)
inductive PlVs (h : Heap) : List D → List Value → Prop
  | nil : PlVs h [] []
  | cons {d : D} {ds : List D} {u : Value} {us : List Value} : PlV h d u → PlVs h ds us → PlVs h (d :: ds) (u :: us)
end
mutual
theorem PlV.pure {h : Heap} : ∀ {d : D} {u : Value}, PlV h d u → pureD d = true
  | _, _, .non => rfl
  | _, _, .int => rfl
  | _, _, .str => rfl
  | _, _, .tup _ t => by rw [pureD]; exact PlVs.pure t
theorem PlVs.pure {h : Heap} : ∀ {ds : List D} {us : List Value}, PlVs h ds us → puresD ds = true
  | _, _, .nil => rfl
  | _, _, .cons r t => by rw [puresD, PlV.pure r, PlVs.pure t]; rfl
end
mutual
theorem PlV.keep {h h' : Heap} (k : ∀ a us, h.IsTuple a us → h'.IsTuple a us) : ∀ {d : D} {u : Value}, PlV h d u → PlV h' d u
  | _, _, .non => .non
  | _, _, .int => .int
  | _, _, .str => .str
  | _, _, .tup i t => .tup (k _ _ i) (PlVs.keep k t)
theorem PlVs.keep {h h' : Heap} (k : ∀ a us, h.IsTuple a us → h'.IsTuple a us) : ∀ {ds : List D} {us : List Value}, PlVs h ds us → PlVs h' ds us
  | _, _, .nil => .nil
  | _, _, .cons r t => .cons (PlV.keep k r) (PlVs.keep k t)
end
theorem isTuple_inj {h : Heap} {a : Addr} {us ws : Array Value} (x : h.IsTuple a us) (y : h.IsTuple a ws) : us = ws := by
  obtain ⟨o, h1, _, n, h2⟩ := x
  obtain ⟨o', h3, _, n', h4⟩ := y
  rw [h1] at h3
  cases h3
  rw [h2] at h4
  cases h4
  rfl
mutual
theorem PlV.inj {h : Heap} : ∀ {d c : D} {u : Value}, PlV h d u → PlV h c u → d = c
  | _, _, _, .non, y => by cases y; rfl
  | _, _, _, .int, y => by cases y; rfl
  | _, _, _, .str, y => by cases y; rfl
  | _, _, _, .tup i t, y => by
    cases y with
    | tup i2 t2 =>
      have := isTuple_inj i i2
      subst this
      rw [PlVs.inj t t2]
theorem PlVs.inj {h : Heap} : ∀ {ds cs : List D} {us : List Value}, PlVs h ds us → PlVs h cs us → ds = cs
  | _, _, _, .nil, y => by cases y; rfl
  | _, _, _, .cons r t, y => by
    cases y with
    | cons r2 t2 => rw [PlV.inj r r2, PlVs.inj t t2]
end
section
variable {X : Cx} {pins : List (Addr × Obj)} {σ : L2.St} {H : Hp} {s : Shared} {ρ : List Addr}
mutual
theorem plV_of (I : L2.Inv X pins σ H s) : ∀ (n : Nat) (d : D) (v : V) (u : Value), plainD n d = true → VR X.K ρ H d v → RelV v u → PlV s.heap d u
  | n, .non, v, u, _, h, r => by
    cases h.non_of
    cases (show u = Value.none from r)
    exact .non
  | n, .int i, v, u, _, h, r => by
    cases h.int_of
    obtain ⟨t, rfl⟩ := (show ∃ t, u = Value.int i t from r)
    exact .int
  | n, .str x, v, u, _, h, r => by
    cases h.str_of
    obtain ⟨t, rfl⟩ := (show ∃ t, u = Value.str x t from r)
    exact .str
  | 0, .tup ds, v, u, hp, h, r => by simp [plainD] at hp
  | n + 1, .tup ds, v, u, hp, h, r => by
    obtain ⟨a, vs, rfl, h1, h2⟩ := h.tup_of
    cases (show u = Value.ref a from r)
    obtain ⟨its, rv, t1, _⟩ := I.tuple h1.sq
    exact .tup t1 (by simpa using plVs_of I n ds vs its (plainD_tup.mp hp).2 h2 rv)
  | n, .bl _, v, u, hp, _, _ => by simp [plainD] at hp
  | n, .fls _, v, u, hp, _, _ => by simp [plainD] at hp
  | n, .loc _, v, u, hp, _, _ => by simp [plainD] at hp
theorem plVs_of (I : L2.Inv X pins σ H s) : ∀ (n : Nat) (ds : List D) (vs : List V) (us : List Value), plainsD n ds = true → VRs X.K ρ H ds vs → Vals vs us → PlVs s.heap ds us
  | n, [], vs, us, _, h, r => by
    cases h.nil_of
    cases r
    exact .nil
  | n, d :: ds, vs, us, hp, h, r => by
    unfold VRs at h
    obtain ⟨v, vr, rfl, h1, h2⟩ := h
    simp only [plainsD, Bool.and_eq_true] at hp
    cases r with
    | cons r1 r2 => exact .cons (plV_of I n d v _ hp.1 h1 r1) (plVs_of I n ds vr _ hp.2 h2 r2)
end
end
/-! ### ==, < of values read -/
mutual
theorem PlV.nested {h : Heap} : ∀ {d : D} {u : Value}, PlV h d u → ∃ k, keyOf d = some k ∧ NestedIs h k u
  | _, _, .non => ⟨.none, rfl, .none⟩
  | _, _, .int => ⟨.num _, rfl, .int _ _⟩
  | _, _, .str => ⟨.text _, rfl, .text _ _⟩
  | _, _, .tup (ds := ds) i t => by
    obtain ⟨ks, h1, h2⟩ := PlVs.nested t
    obtain ⟨o, g1, g2, n, g3⟩ := i
    exact ⟨.tup ks, by show (keyOf.keysOf ds).map NestedKey.tup = _; rw [h1]; rfl, .tup g1 g2 g3 h2⟩
theorem PlVs.nested {h : Heap} : ∀ {ds : List D} {us : List Value}, PlVs h ds us → ∃ ks, keyOf.keysOf ds = some ks ∧ NestedAll h ks us
  | _, _, .nil => ⟨[], rfl, .nil⟩
  | _, _, .cons r t => by
    obtain ⟨k, h1, h2⟩ := PlV.nested r
    obtain ⟨ks, h3, h4⟩ := PlVs.nested t
    refine ⟨k :: ks, ?_, .cons h2 h4⟩
    rw [keyOf.keysOf, h1, h3]
end
mutual
theorem pure_key_inj : ∀ (d c : D) (k : NestedKey), pureD d = true → pureD c = true → keyOf d = some k → keyOf c = some k → d = c
  | .non, c, k, _, hc, h1, h2 => by
    cases (show some NestedKey.none = some k from h1)
    cases c with
    | non => rfl
    | int _ => cases (show some (NestedKey.num _) = some NestedKey.none from h2)
    | str _ => cases (show some (NestedKey.text _) = some NestedKey.none from h2)
    | tup cs =>
      have h3 : (keyOf.keysOf cs).map NestedKey.tup = some NestedKey.none := h2
      cases e : keyOf.keysOf cs <;> rw [e] at h3 <;> cases h3
    | _ => simp [pureD] at hc
  | .int i, c, k, _, hc, h1, h2 => by
    cases (show some (NestedKey.num i) = some k from h1)
    cases c with
    | non => cases (show some NestedKey.none = some (NestedKey.num i) from h2)
    | int _ => cases (show some (NestedKey.num _) = some (NestedKey.num i) from h2); rfl
    | str _ => cases (show some (NestedKey.text _) = some (NestedKey.num i) from h2)
    | tup cs =>
      have h3 : (keyOf.keysOf cs).map NestedKey.tup = some (NestedKey.num i) := h2
      cases e : keyOf.keysOf cs <;> rw [e] at h3 <;> cases h3
    | _ => simp [pureD] at hc
  | .str x, c, k, _, hc, h1, h2 => by
    cases (show some (NestedKey.text x) = some k from h1)
    cases c with
    | non => cases (show some NestedKey.none = some (NestedKey.text x) from h2)
    | int _ => cases (show some (NestedKey.num _) = some (NestedKey.text x) from h2)
    | str _ => cases (show some (NestedKey.text _) = some (NestedKey.text x) from h2); rfl
    | tup cs =>
      have h3 : (keyOf.keysOf cs).map NestedKey.tup = some (NestedKey.text x) := h2
      cases e : keyOf.keysOf cs <;> rw [e] at h3 <;> cases h3
    | _ => simp [pureD] at hc
  | .tup ds, c, k, hd, hc, h1, h2 => by
    have h3 : (keyOf.keysOf ds).map NestedKey.tup = some k := h1
    cases e : keyOf.keysOf ds with
    | none => rw [e] at h3; cases h3
    | some ks =>
      rw [e] at h3
      cases h3
      cases c with
      | non => cases (show some NestedKey.none = some (NestedKey.tup ks) from h2)
      | int _ => cases (show some (NestedKey.num _) = some (NestedKey.tup ks) from h2)
      | str _ => cases (show some (NestedKey.text _) = some (NestedKey.tup ks) from h2)
      | tup cs =>
        have h4 : (keyOf.keysOf cs).map NestedKey.tup = some (NestedKey.tup ks) := h2
        cases e2 : keyOf.keysOf cs with
        | none => rw [e2] at h4; cases h4
        | some ks2 =>
          rw [e2] at h4
          cases h4
          rw [pures_key_inj ds cs ks (by simpa [pureD] using hd) (by simpa [pureD] using hc) e e2]
      | _ => simp [pureD] at hc
  | .bl _, c, k, hd, _, _, _ => by simp [pureD] at hd
  | .fls _, c, k, hd, _, _, _ => by simp [pureD] at hd
  | .loc _, c, k, hd, _, _, _ => by simp [pureD] at hd
theorem pures_key_inj : ∀ (ds cs : List D) (ks : List NestedKey), puresD ds = true → puresD cs = true → keyOf.keysOf ds = some ks → keyOf.keysOf cs = some ks → ds = cs
  | [], cs, ks, _, _, h1, h2 => by
    cases (show some [] = some ks from h1)
    cases cs with
    | nil => rfl
    | cons c cs =>
      unfold keyOf.keysOf at h2
      cases e1 : keyOf c with
      | none => rw [e1] at h2; cases h2
      | some k => cases e2 : keyOf.keysOf cs <;> rw [e1, e2] at h2 <;> cases h2
  | d :: ds, cs, ks, hd, hc, h1, h2 => by
    unfold keyOf.keysOf at h1
    cases e1 : keyOf d with
    | none => rw [e1] at h1; cases h1
    | some k =>
      cases e2 : keyOf.keysOf ds with
      | none => rw [e1, e2] at h1; cases h1
      | some ks1 =>
        rw [e1, e2] at h1
        cases h1
        cases cs with
        | nil => cases (show some [] = some (k :: ks1) from h2)
        | cons c cs =>
          unfold keyOf.keysOf at h2
          cases e3 : keyOf c with
          | none => rw [e3] at h2; cases h2
          | some k' =>
            cases e4 : keyOf.keysOf cs with
            | none => rw [e3, e4] at h2; cases h2
            | some ks' =>
              rw [e3, e4] at h2
              cases h2
              simp only [puresD, Bool.and_eq_true] at hd hc
              rw [pure_key_inj d c k hd.1 hc.1 e1 e3, pures_key_inj ds cs ks1 hd.2 hc.2 e2 e4]
end
theorem beq_pure {d c : D} {k1 k2 : NestedKey} (hd : pureD d = true) (hc : pureD c = true) (h1 : keyOf d = some k1) (h2 : keyOf c = some k2) : NestedKey.beq k1 k2 = decide (d = c) := by
  cases e : NestedKey.beq k1 k2 with
  | true =>
    have := NestedKey.eq_of_beq k1 k2 e
    subst this
    exact (decide_eq_true (pure_key_inj d c k1 hd hc h1 h2)).symm
  | false =>
    refine (decide_eq_false fun z => ?_).symm
    subst z
    rw [h1] at h2
    cases h2
    rw [NestedKey.beq_self] at e
    cases e
mutual
/-- < is the order -/
theorem ltD_T : ∀ (d c : D) (b : Bool), pureD d = true → pureD c = true → ltD d c = some b → b = ltT d c
  | .int a, c, b, _, _, h => by
    cases c with
    | int a2 =>
      cases (show some (decide (a < a2)) = some b from h)
      rw [ltT, cmpT, Bool.eq_iff_iff]
      simp only [decide_eq_true_eq, beq_iff_eq]
      exact if3_lt.symm
    | _ => simp [ltD] at h
  | .str x, c, b, _, _, h => by
    cases c with
    | str y =>
      cases (show some (decide (x.cps.toList < y.cps.toList)) = some b from h)
      rw [ltT, cmpT, Bool.eq_iff_iff]
      simp only [decide_eq_true_eq, beq_iff_eq]
      exact if3_lt.symm
    | _ => simp [ltD] at h
  | .tup xs, c, b, hd, hc, h => by
    cases c with
    | tup ys =>
      rw [ltD] at h
      rw [ltT, cmpT]
      exact ltDs_T xs ys b (by simpa [pureD] using hd) (by simpa [pureD] using hc) h
    | _ => simp [ltD] at h
  | .non, c, b, _, _, h => by cases c <;> simp [ltD] at h
  | .bl _, c, b, _, _, h => by cases c <;> simp [ltD] at h
  | .fls _, c, b, _, _, h => by cases c <;> simp [ltD] at h
  | .loc _, c, b, _, _, h => by cases c <;> simp [ltD] at h
theorem ltDs_T : ∀ (ds cs : List D) (b : Bool), puresD ds = true → puresD cs = true → ltDs ds cs = some b → b = (cmpTs ds cs == .lt)
  | [], [], b, _, _, h => by cases (show some false = some b from h); rfl
  | [], _ :: _, b, _, _, h => by cases (show some true = some b from h); rfl
  | _ :: _, [], b, _, _, h => by cases (show some false = some b from h); rfl
  | d :: ds, c :: cs, b, hd, hc, h => by
    simp only [puresD, Bool.and_eq_true] at hd hc
    rw [ltDs] at h
    cases e1 : keyOf d with
    | none => simp [e1] at h
    | some k1 =>
      cases e2 : keyOf c with
      | none => simp [e1, e2] at h
      | some k2 =>
        simp only [e1, e2] at h
        rw [beq_pure hd.1 hc.1 e1 e2] at h
        by_cases q : d = c
        · rw [if_pos (decide_eq_true q)] at h
          rw [ltDs_T ds cs b hd.2 hc.2 h, cmpTs, (cmpT_eq d c hd.1 hc.1).mpr q]
        · rw [if_neg (by simp [q])] at h
          have h2 := ltD_T d c b hd.1 hc.1 h
          rw [h2, ltT, cmpTs]
          cases e : cmpT d c with
          | eq => exact absurd ((cmpT_eq d c hd.1 hc.1).mp e) q
          | lt => rfl
          | gt => rfl
end
theorem plV_eq {A : Around} {s : Shared} {d c : D} {u1 u2 : Value} {k : NestedKey} (h1 : PlV s.heap d u1) (h2 : PlV s.heap c u2) (hk : keyOf d = some k) (hu : A.units + k.depth < cLine) : SeqAt.EqAt A s u1 u2 (decide (d = c)) := by
  obtain ⟨k1, g1, n1⟩ := h1.nested
  obtain ⟨k2, g2, n2⟩ := h2.nested
  rw [hk] at g1
  cases g1
  have := eqAt_key k k2 A s u1 u2 n1 n2 (by omega)
  rwa [beq_pure h1.pure h2.pure hk g2] at this
mutual
theorem plV_lt {s : Shared} : ∀ (d c : D) (k : NestedKey) (A : Around) (u1 u2 : Value) (b : Bool), ltD d c = some b → keyOf d = some k → PlV s.heap d u1 → PlV s.heap c u2 → A.units + k.depth < cLine → SeqAt.RcLt A s u1 u2 b
  | .int a, c, k, A, u1, u2, b, e, hk, r1, r2, hu => by
    cases c with
    | int a2 =>
      cases (show some (decide (a < a2)) = some b from e)
      cases r1
      cases r2
      exact fun prog w E Q q => HT.rcLt_int A s a _ a2 _ prog w E Q q
    | _ => simp [ltD] at e
  | .str a, c, k, A, u1, u2, b, e, hk, r1, r2, hu => by
    cases c with
    | str a2 =>
      cases (show some (decide (a.cps.toList < a2.cps.toList)) = some b from e)
      cases r1
      cases r2
      exact fun prog w E Q q => DT.rcLt_str A s a _ a2 _ prog w E Q q
    | _ => simp [ltD] at e
  | .tup ds, c, k, A, u1, u2, b, e, hk, r1, r2, hu => by
    cases c with
    | tup cs =>
      rw [ltD] at e
      cases r1 with
      | tup i1 t1 =>
      cases r2 with
      | tup i2 t2 =>
      have e' : (keyOf.keysOf ds).map NestedKey.tup = some k := hk
      cases e2 : keyOf.keysOf ds with
      | none =>
        rw [e2] at e'
        cases e'
      | some ks =>
        rw [e2] at e'
        cases e'
        have hd : NestedKey.depth (.tup ks) = NestedKey.depthAll ks + 1 := by simp [NestedKey.depth]
        rw [hd] at hu
        exact rcLt_tups i1 i2 (by omega) (plVs_lt ds cs ks A.in1 _ _ b e e2 t1 t2 (by show A.units + 1 + _ < cLine; omega))
    | _ => simp [ltD] at e
  | .non, c, k, A, u1, u2, b, e, hk, r1, r2, hu => by cases c <;> simp [ltD] at e
  | .bl _, c, k, A, u1, u2, b, e, hk, r1, r2, hu => by cases c <;> simp [ltD] at e
  | .fls _, c, k, A, u1, u2, b, e, hk, r1, r2, hu => by cases hk
  | .loc _, c, k, A, u1, u2, b, e, hk, r1, r2, hu => by cases hk
theorem plVs_lt {s : Shared} : ∀ (ds cs : List D) (ks : List NestedKey) (A : Around) (us1 us2 : List Value) (b : Bool), ltDs ds cs = some b → keyOf.keysOf ds = some ks → PlVs s.heap ds us1 → PlVs s.heap cs us2 → A.units + NestedKey.depthAll ks < cLine → LtsAt A s us1 us2 b
  | [], [], ks, A, us1, us2, b, e, hk, r1, r2, hu => by
    cases r1
    cases r2
    cases (show some false = some b from e)
    exact .nil
  | [], c :: cs, ks, A, us1, us2, b, e, hk, r1, r2, hu => by
    cases r1
    cases r2
    cases (show some true = some b from e)
    exact .left
  | d :: ds, [], ks, A, us1, us2, b, e, hk, r1, r2, hu => by
    cases r1
    cases r2
    cases (show some false = some b from e)
    exact .right
  | d :: ds, c :: cs, ks, A, us1, us2, b, e, hk, r1, r2, hu => by
    cases r1 with
    | cons p1 t1 =>
    cases r2 with
    | cons p2 t2 =>
    rw [ltDs] at e
    unfold keyOf.keysOf at hk
    cases e1 : keyOf d with
    | none =>
      rw [e1] at hk
      cases hk
    | some k1 =>
      cases e2 : keyOf.keysOf ds with
      | none =>
        rw [e1, e2] at hk
        cases hk
      | some ks' =>
        rw [e1, e2] at hk
        cases hk
        simp only [NestedKey.depthAll] at hu
        cases e3 : keyOf c with
        | none => simp [e1, e3] at e
        | some k2 =>
          simp only [e1, e3] at e
          have eq := plV_eq (A := A) p1 p2 e1 (by omega)
          rw [beq_pure p1.pure p2.pure e1 e3] at e
          by_cases hb : d = c
          · rw [if_pos (decide_eq_true hb)] at e
            rw [decide_eq_true hb] at eq
            exact .same eq (plVs_lt ds cs ks' A _ _ b e e2 t1 t2 (by omega))
          · rw [if_neg (by simp [hb])] at e
            rw [decide_eq_false hb] at eq
            exact .less eq (plV_lt d c k1 A _ _ b e e1 p1 p2 (by omega))
end
end Dl

namespace Dl
open PySem L2 PyProof.Rows PySem.Spec

/-! ## what is sorted: how its items compare -/
def srtK (ds : List D) : Prop := (∀ d ∈ ds, ∃ i, d = .int i) ∨ (∀ d ∈ ds, ∃ x, d = .str x) ∨ (∀ d ∈ ds, ∃ i r, d = .tup (.int i :: r)) ∨ (∀ d ∈ ds, ∃ x r, d = .tup (.str x :: r)) ∨ (∀ d ∈ ds, ∃ q r, d = .tup (.tup q :: r))
structure Srt (ds : List D) : Prop where
  kind : srtK ds
  plain : ∀ d ∈ ds, plainD 90 d = true
  cmp : ∀ d ∈ ds, ∀ c ∈ ds, ∃ b, ltD d c = some b
section
variable {prog : Program} {w : World} {A : Around} {E : Value → Shared → Prop} {s : Shared}
theorem kat_lts {b fin r : Bool} : ∀ (ds cs : List D) (us ws : List Value) (ks : List NestedKey) (i lx ly : Nat), ltDs ds cs = some r → keyOf.keysOf ds = some ks → PlVs s.heap ds us → PlVs s.heap cs ws → A.units + NestedKey.depthAll ks < cLine →
    lx + ws.length = ly + us.length → fin = decide (lx < ly) → (b = true → i = 0 → (∃ x y dr cr, ds = .int x :: dr ∧ cs = .int y :: cr) ∨ ∃ x y dr cr, ds = .str x :: dr ∧ cs = .str y :: cr) →
    PySem.W.KatLex prog w A b fin (fun r' s' => s' = s ∧ r' = r) (us.zip ws) i s
  | [], cs, us, ws, ks, i, lx, ly, e, hk, r1, r2, hu, hl, hf, hb => by
    cases r1
    rw [List.zip_nil_left]
    refine PySem.W.kat_nil ⟨rfl, ?_⟩
    rw [hf]
    cases r2 with
    | nil =>
      cases (show some false = some r from e)
      simp only [List.length_nil] at hl
      exact decide_eq_false (by omega)
    | cons _ _ =>
      cases (show some true = some r from e)
      simp only [List.length_nil, List.length_cons] at hl
      exact decide_eq_true (by omega)
  | d :: ds, [], us, ws, ks, i, lx, ly, e, hk, r1, r2, hu, hl, hf, hb => by
    cases r2
    rw [List.zip_nil_right]
    refine PySem.W.kat_nil ⟨rfl, ?_⟩
    rw [hf]
    cases r1
    cases (show some false = some r from e)
    simp only [List.length_nil, List.length_cons] at hl
    exact decide_eq_false (by omega)
  | d :: ds, c :: cs, us, ws, ks, i, lx, ly, e, hk, r1, r2, hu, hl, hf, hb => by
    cases r1 with
    | @cons _ _ u us p1 t1 =>
    cases r2 with
    | @cons _ _ v ws p2 t2 =>
    rw [ltDs] at e
    unfold keyOf.keysOf at hk
    cases e1 : keyOf d with
    | none =>
      rw [e1] at hk
      cases hk
    | some k1 =>
      cases e2 : keyOf.keysOf ds with
      | none =>
        rw [e1, e2] at hk
        cases hk
      | some ks' =>
        rw [e1, e2] at hk
        cases hk
        simp only [NestedKey.depthAll] at hu
        cases e3 : keyOf c with
        | none => simp [e1, e3] at e
        | some k2 =>
          simp only [e1, e3] at e
          have eq := plV_eq (A := A) p1 p2 e1 (by omega)
          rw [beq_pure p1.pure p2.pure e1 e3] at e
          rw [List.zip_cons_cons]
          refine PySem.W.kat_cons (eq prog w _ _ ?_)
          by_cases q : d = c
          · rw [if_pos (decide_eq_true q)] at e
            rw [decide_eq_true q]
            simp only [List.length_cons] at hl
            exact PySem.W.kat_yes (kat_lts ds cs us ws ks' (i + 1) lx ly e e2 t1 t2 (by omega) (by omega) hf fun _ h => by omega)
          · rw [if_neg (by simp [q])] at e
            rw [decide_eq_false q]
            refine PySem.W.kat_no ?_
            have lt := plV_lt d c k1 A u v r e e1 p1 p2 (by omega)
            by_cases hbi : b = true ∧ i = 0
            · have hx : (b && i == 0) = true := by simp [hbi]
              rw [hx]
              rcases hb hbi.1 hbi.2 with ⟨x, y, dr, cr, h1, h2⟩ | ⟨x, y, dr, cr, h1, h2⟩
              · cases h1
                cases h2
                cases p1
                cases p2
                cases (show some (decide (x < y)) = some r from e)
                exact oneLt_int ⟨rfl, rfl⟩
              · cases h1
                cases h2
                cases p1
                cases p2
                cases (show some (decide (x.cps.toList < y.cps.toList)) = some r from e)
                exact oneLt_str ⟨rfl, rfl⟩
            · have hx : (b && i == 0) = false := by
                cases b with
                | false => rfl
                | true => simpa using fun h => hbi ⟨rfl, h⟩
              rw [hx]
              exact PySem.W.kat_one _ _ (lt prog w _ _ ⟨rfl, rfl⟩)
theorem ints_are : ∀ us : List Value, (∀ u ∈ us, ∃ i t, u = Value.int i t) → ∃ ns, IntsAre us ns
  | [], _ => ⟨[], .nil⟩
  | u :: us, h => by
    obtain ⟨ns, hn⟩ := ints_are us fun v hv => h v (List.mem_cons_of_mem _ hv)
    obtain ⟨i, t, rfl⟩ := h u List.mem_cons_self
    exact ⟨i :: ns, .cons i t hn⟩
theorem strs_are : ∀ us : List Value, (∀ u ∈ us, ∃ i t, u = Value.str i t) → ∃ ns, StrsAre us ns
  | [], _ => ⟨[], .nil⟩
  | u :: us, h => by
    obtain ⟨ns, hn⟩ := strs_are us fun v hv => h v (List.mem_cons_of_mem _ hv)
    obtain ⟨i, t, rfl⟩ := h u List.mem_cons_self
    exact ⟨i :: ns, .cons i t hn⟩
theorem tups_are {rd : Value → D} {P : D → Prop} : ∀ us : List Value, (∀ u ∈ us, PlV s.heap (rd u) u ∧ ∃ f r, rd u = .tup (f :: r) ∧ P f) → ∃ fs, PySem.W.KatTups s.heap us fs ∧ fs.length = us.length ∧ ∀ v ∈ fs, ∃ f, P f ∧ PlV s.heap f v
  | [], _ => ⟨[], PySem.W.KatTups.nil, rfl, by simp⟩
  | u :: us, h => by
    obtain ⟨fs, h1, h2, h3⟩ := tups_are us fun v hv => h v (List.mem_cons_of_mem _ hv)
    obtain ⟨hp, f, r, e, hf⟩ := h u List.mem_cons_self
    rw [e] at hp
    cases hp with
    | @tup _ a items i t =>
    obtain ⟨o, g1, g2, n, g3⟩ := i
    cases hi : items.toList with
    | nil => rw [hi] at t; cases t
    | cons v vs =>
      rw [hi] at t
      cases t with
      | cons t1 t2 =>
      have h0 : items[0]? = some v := by rw [← Array.getElem?_toList, hi]; rfl
      refine ⟨v :: fs, PySem.W.KatTups.cons g1 g2 g3 h0 h1, by simp [h2], fun x hx => ?_⟩
      rcases List.mem_cons.mp hx with rfl | hx
      · exact ⟨f, hf, t1⟩
      · exact h3 x hx
theorem srt_cmp {rd : Value → D} {us : List Value} (S : Srt (us.map rd)) (h : ∀ u ∈ us, PlV s.heap (rd u) u) (hu : A.units + 100 < cLine) (h2 : 2 ≤ us.length) :
    ∃ κ, (∀ (Q : SortKind → Shared → Prop) (E : Value → Shared → Prop), Q κ s → wpAny (model prog w) A (keyKind' us.toArray) Q E s) ∧ SrtO.Cmp prog w A s κ (fun p => p.1 ∈ us) (fun p q => ltT (rd p.1) (rd q.1)) := by
  have mem : ∀ u ∈ us, rd u ∈ us.map rd := fun u hm => List.mem_map_of_mem hm
  have lt : ∀ u ∈ us, ∀ v ∈ us, ltD (rd u) (rd v) = some (ltT (rd u) (rd v)) := fun u hm v hv => by
    obtain ⟨b, hb⟩ := S.cmp _ (mem u hm) _ (mem v hv)
    rw [hb, ltD_T _ _ b (h u hm).pure (h v hv).pure hb]
  have tups : ∀ (b : Bool), (∀ u ∈ us, ∃ f r, rd u = .tup (f :: r)) → (b = true → ∀ u ∈ us, ∀ v ∈ us, (∃ x y dr cr, rd u = .tup (.int x :: dr) ∧ rd v = .tup (.int y :: cr)) ∨ ∃ x y dr cr, rd u = .tup (.str x :: dr) ∧ rd v = .tup (.str y :: cr)) →
      SrtO.Cmp prog w A s (tuples' b) (fun p => p.1 ∈ us) (fun p q => ltT (rd p.1) (rd q.1)) := by
    intro b ht hb p q hm hm'
    have e := lt _ hm _ hm'
    have hp := S.plain _ (mem _ hm)
    have v1 := h _ hm
    have v2 := h _ hm'
    have hbb := fun hx => hb hx _ hm _ hm'
    obtain ⟨f, r, e1⟩ := ht _ hm
    obtain ⟨f', r', e2⟩ := ht _ hm'
    show wpAny (model prog w) A (keyLt' (tuples' b) p.1 q.1) (fun r s' => s' = s ∧ r = ltT (rd p.1) (rd q.1)) (fun _ _ => False) s
    generalize ltT (rd p.1) (rd q.1) = res at e ⊢
    rw [e1] at v1 e hp
    rw [e2] at v2 e
    generalize hp1 : p.1 = u1 at v1
    generalize hq1 : q.1 = u2 at v2
    cases v1 with
    | @tup _ a items i t =>
    cases v2 with
    | @tup _ a2 items2 i2 t2 =>
    obtain ⟨o, g1, g2, n, g3⟩ := i
    obtain ⟨o', g4, g5, n', g6⟩ := i2
    refine PySem.W.kat_lt g1 g3 g4 g6 ?_
    rw [ltD] at e
    obtain ⟨k, hk, hd⟩ := key_plain 90 _ hp
    have hk' : (keyOf.keysOf (f :: r)).map NestedKey.tup = some k := hk
    cases ek : keyOf.keysOf (f :: r) with
    | none => rw [ek] at hk'; cases hk'
    | some ks =>
      rw [ek] at hk'
      cases hk'
      have hdd : NestedKey.depth (.tup ks) = NestedKey.depthAll ks + 1 := by simp [NestedKey.depth]
      refine kat_lts (f :: r) (f' :: r') _ _ ks 0 items.size items2.size e ek t t2 (by omega) (by simp; omega) rfl fun hb1 _ => ?_
      rcases hbb hb1 with ⟨x, y, dr, cr, z1, z2⟩ | ⟨x, y, dr, cr, z1, z2⟩
      · rw [e1] at z1
        rw [e2] at z2
        cases z1
        cases z2
        exact .inl ⟨x, y, _, _, rfl, rfl⟩
      · rw [e1] at z1
        rw [e2] at z2
        cases z1
        cases z2
        exact .inr ⟨x, y, _, _, rfl, rfl⟩
  rcases S.kind with hk | hk | hk | hk | hk
  · have hi : ∀ u ∈ us, ∃ i t, u = Value.int i t := fun u hm => by
      obtain ⟨i, e⟩ := hk _ (mem u hm)
      have := h u hm
      rw [e] at this
      cases this
      exact ⟨_, _, rfl⟩
    obtain ⟨ns, hI⟩ := ints_are us hi
    refine ⟨oneType', fun Q E hq => ?_, fun p q hm hm' => ?_⟩
    · match us, hI, h2 with
      | v1 :: v2 :: rest, hI, _ =>
        rw [keyKind_ints hI]
        exact wpAny_pure hq
    · have e := lt _ hm _ hm'
      have v1 := h _ hm
      have v2 := h _ hm'
      obtain ⟨i, e1⟩ := hk _ (mem _ hm)
      obtain ⟨j, e2⟩ := hk _ (mem _ hm')
      show wpAny (model prog w) A (keyLt' oneType' p.1 q.1) (fun r s' => s' = s ∧ r = ltT (rd p.1) (rd q.1)) (fun _ _ => False) s
      generalize ltT (rd p.1) (rd q.1) = res at e ⊢
      rw [e1] at v1 e
      rw [e2] at v2 e
      cases (show some (decide (i < j)) = some res from e)
      generalize p.1 = u1 at v1 ⊢
      generalize q.1 = u2 at v2 ⊢
      cases v1
      cases v2
      rw [keyLt'_oneType]
      exact oneLt_int ⟨rfl, rfl⟩
  · have hi : ∀ u ∈ us, ∃ i t, u = Value.str i t := fun u hm => by
      obtain ⟨i, e⟩ := hk _ (mem u hm)
      have := h u hm
      rw [e] at this
      cases this
      exact ⟨_, _, rfl⟩
    obtain ⟨ns, hI⟩ := strs_are us hi
    refine ⟨oneType', fun Q E hq => ?_, fun p q hm hm' => ?_⟩
    · match us, hI, h2 with
      | v1 :: v2 :: rest, hI, _ =>
        rw [keyKind_strs hI]
        exact wpAny_pure hq
    · have e := lt _ hm _ hm'
      have v1 := h _ hm
      have v2 := h _ hm'
      obtain ⟨i, e1⟩ := hk _ (mem _ hm)
      obtain ⟨j, e2⟩ := hk _ (mem _ hm')
      show wpAny (model prog w) A (keyLt' oneType' p.1 q.1) (fun r s' => s' = s ∧ r = ltT (rd p.1) (rd q.1)) (fun _ _ => False) s
      generalize ltT (rd p.1) (rd q.1) = res at e ⊢
      rw [e1] at v1 e
      rw [e2] at v2 e
      cases (show some (decide (i.cps.toList < j.cps.toList)) = some res from e)
      generalize p.1 = u1 at v1 ⊢
      generalize q.1 = u2 at v2 ⊢
      cases v1
      cases v2
      rw [keyLt'_oneType]
      exact oneLt_str ⟨rfl, rfl⟩
  · obtain ⟨fs, h3, h4, h5⟩ := tups_are (P := fun f => ∃ i, f = .int i) us fun u hm => ⟨h u hm, by obtain ⟨i, r, e⟩ := hk _ (mem u hm); exact ⟨_, r, e, i, rfl⟩⟩
    refine ⟨tuples' true, fun Q E hq => ?_, tups true (fun u hm => by obtain ⟨i, r, e⟩ := hk _ (mem u hm); exact ⟨_, r, e⟩) fun _ u hm v hv => ?_⟩
    · refine PySem.W.kat_kind (T := .type "int") h3 (by omega) (fun f hm => ?_) (by rfl) ?_
      · obtain ⟨d, ⟨i, rfl⟩, hv⟩ := h5 f hm
        cases hv
        exact PySem.W.Looks.now
      · have e : (Value.type "int" != Value.type "tuple") = true := by first | decide +kernel | rfl | decide
        rw [e]
        exact hq
    · obtain ⟨i, r, e⟩ := hk _ (mem u hm)
      obtain ⟨j, r2, e2⟩ := hk _ (mem v hv)
      exact .inl ⟨_, _, _, _, e, e2⟩
  · obtain ⟨fs, h3, h4, h5⟩ := tups_are (P := fun f => ∃ i, f = .str i) us fun u hm => ⟨h u hm, by obtain ⟨i, r, e⟩ := hk _ (mem u hm); exact ⟨_, r, e, i, rfl⟩⟩
    refine ⟨tuples' true, fun Q E hq => ?_, tups true (fun u hm => by obtain ⟨i, r, e⟩ := hk _ (mem u hm); exact ⟨_, r, e⟩) fun _ u hm v hv => ?_⟩
    · refine PySem.W.kat_kind (T := .type "str") h3 (by omega) (fun f hm => ?_) (by rfl) ?_
      · obtain ⟨d, ⟨i, rfl⟩, hv⟩ := h5 f hm
        cases hv
        exact PySem.W.Looks.now
      · have e : (Value.type "str" != Value.type "tuple") = true := by first | decide +kernel | rfl | decide
        rw [e]
        exact hq
    · obtain ⟨i, r, e⟩ := hk _ (mem u hm)
      obtain ⟨j, r2, e2⟩ := hk _ (mem v hv)
      exact .inr ⟨_, _, _, _, e, e2⟩
  · obtain ⟨fs, h3, h4, h5⟩ := tups_are (P := fun f => ∃ q, f = .tup q) us fun u hm => ⟨h u hm, by obtain ⟨i, r, e⟩ := hk _ (mem u hm); exact ⟨_, r, e, i, rfl⟩⟩
    refine ⟨tuples' false, fun Q E hq => ?_, tups false (fun u hm => by obtain ⟨i, r, e⟩ := hk _ (mem u hm); exact ⟨_, r, e⟩) fun hx => by cases hx⟩
    refine PySem.W.kat_kind (T := .type "tuple") h3 (by omega) (fun f hm => ?_) (by rfl) ?_
    · obtain ⟨d, ⟨i, rfl⟩, hv⟩ := h5 f hm
      cases hv with
      | tup i t =>
      obtain ⟨o, g1, g2, n, g3⟩ := i
      rw [← g2]
      exact (PySem.W.Looks.ld g1).andThen .now
    · have e : (Value.type "tuple" != Value.type "tuple") = false := by first | decide +kernel | rfl | decide
      rw [e]
      exact hq
end
end Dl

namespace Dl
open PySem L2 PyProof.Rows PySem.Spec

/-! ## sorted(x): a list, a tuple, a dict's keys -/
/-- how a value reads -/
noncomputable def rdV (h : Heap) (u : Value) : D := by
  classical
  exact if q : ∃ d, PlV h d u then q.choose else .non
theorem rdV_eq {h : Heap} {d : D} {u : Value} (x : PlV h d u) : rdV h u = d := by
  have q : ∃ d, PlV h d u := ⟨d, x⟩
  unfold rdV
  rw [dif_pos q]
  exact q.choose_spec.inj x
theorem rdV_pure (h : Heap) (u : Value) : pureD (rdV h u) = true := by
  unfold rdV
  split
  · rename_i q
    exact q.choose_spec.pure
  · rfl
theorem rdV_all {h : Heap} : ∀ {ds : List D} {us : List Value}, PlVs h ds us → us.map (rdV h) = ds ∧ ∀ u ∈ us, PlV h (rdV h u) u
  | _, _, .nil => ⟨rfl, by simp⟩
  | _, _, .cons r t => by
    obtain ⟨h1, h2⟩ := rdV_all t
    refine ⟨by rw [List.map_cons, h1, rdV_eq r], fun u hu => ?_⟩
    rcases List.mem_cons.mp hu with rfl | hu
    · rw [rdV_eq r]; exact r
    · exact h2 u hu
/-- an order kept aside -/
theorem perm_vals {K : PySem.W.Frag} {ρ : List Addr} {H : Hp} {rd : Value → D} {us out : List Value} (p : out.Perm us) : ∀ (vs : List V), VRs K ρ H (us.map rd) vs → Vals vs us → ∃ vs', VRs K ρ H (out.map rd) vs' ∧ Vals vs' out := by
  induction p with
  | nil => exact fun vs h1 h2 => ⟨vs, h1, h2⟩
  | cons x _ ih =>
    intro vs h1 h2
    rw [List.map_cons] at h1
    unfold VRs at h1
    obtain ⟨v, vr, rfl, g1, g2⟩ := h1
    cases h2 with
    | cons r1 r2 =>
    obtain ⟨vs', k1, k2⟩ := ih vr g2 r2
    exact ⟨v :: vs', .cons g1 k1, .cons r1 k2⟩
  | swap x y l =>
    intro vs h1 h2
    rw [List.map_cons, List.map_cons] at h1
    unfold VRs at h1
    obtain ⟨v, vr, rfl, g1, g2⟩ := h1
    unfold VRs at g2
    obtain ⟨v2, vr2, rfl, g3, g4⟩ := g2
    cases h2 with
    | cons r1 r2 =>
    cases r2 with
    | cons r2 r3 => exact ⟨v2 :: v :: vr2, .cons g3 (.cons g1 g4), .cons r2 (.cons r1 r3)⟩
  | trans _ _ ih1 ih2 =>
    intro vs h1 h2
    obtain ⟨vs', k1, k2⟩ := ih2 vs h1 h2
    exact ih1 vs' k1 k2
/-- what sorted takes -/
def srcD (S : Sto) (d : D) : Option (List D) := match seqD S d with
  | some xs => some xs
  | none => match d with
    | .loc l => match S[l]? with
      | some (.dct _ kvs) => some (kvs.map (·.1))
      | _ => none
    | _ => none
theorem srcD_seq {S : Sto} {d : D} {xs : List D} (h : seqD S d = some xs) : srcD S d = some xs := by simp [srcD, h]
theorem srcD_loc {S : Sto} {l : Nat} {xs : List D} (h : S[l]? = some (.lst xs)) : srcD S (.loc l) = some xs := srcD_seq (seqD_loc h)
theorem srcD_dct {S : Sto} {l ep : Nat} {kvs : List (D × D)} (h : S[l]? = some (.dct ep kvs)) : srcD S (.loc l) = some (kvs.map (·.1)) := by simp [srcD, seqD, h]
@[simp] theorem srcD_tup {S : Sto} {xs : List D} : srcD S (.tup xs) = some xs := rfl
@[simp] theorem srcD_fls {S : Sto} {xs : List D} : srcD S (.fls xs) = some xs := rfl
section
variable {X : Cx} {pins : List (Addr × Obj)} {σ : L2.St} {H : Hp} {s : Shared} {ρ : List Addr} {S : Sto}
theorem col_ok {A : Around} {E : Value → Shared → Prop} {d : D} {v : V} {u : Value} {ds : List D} {Q : List Value → Shared → Prop} (hh : A.handled = none) (I : L2.Inv X pins σ H s) (W : XW X ρ S H) (r : VR X.K ρ H d v) (ru : RelV v u) (e : srcD S d = some ds)
    (q : ∀ h' tk us vs, (∀ b o, s.heap.get? b = some o → h'.get? b = some o) → VRs X.K ρ H ds vs → Vals vs us → us.length ≤ sizeLine → Q us { s with heap := h', toks := tk }) : wpAny (model X.prog X.w) A (collect u) Q E s := by
  unfold srcD at e
  cases hs : seqD S d with
  | some xs =>
    rw [hs] at e
    cases e
    obtain ⟨a, vs, rfl, h1, h2⟩ := seqD_ok W r hs
    cases (show u = Value.ref a from ru)
    rcases h1 with h1 | h1
    · obtain ⟨its, rv, ⟨o, n, ho, hc, _, hd⟩, hz⟩ := I.list h1
      exact wpAny_collect_seq a (.inl rfl) ho hc hd (fun h' hk => q h' _ _ vs hk h2 (by simpa using rv) (by rw [← rv.length] at *; simpa using hz)) (by simpa [rv.length] using hz)
    · obtain ⟨its, rv, ⟨o, ho, hc, n, hd⟩, hz⟩ := I.tuple h1
      exact wpAny_collect_seq a (.inr rfl) ho hc hd (fun h' hk => q h' _ _ vs hk h2 (by simpa using rv) (by simpa [rv.length] using hz)) (by simpa [rv.length] using hz)
  | none =>
    rw [hs] at e
    cases d with
    | loc l =>
      cases hl : S[l]? with
      | none => simp [hl] at e
      | some o =>
        cases o with
        | lst _ => simp [hl] at e
        | ins _ _ => simp [hl] at e
        | dct ep kvs =>
          simp only [hl] at e
          cases e
          obtain ⟨a, h3, rfl⟩ := r.loc_of
          cases (show u = Value.ref a from ru)
          obtain ⟨es, ks, T⟩ := dat_of I (W.obj l a _ h3 hl)
          have hsz : es.size ≤ sizeLine := by rw [T.size]; exact T.le
          obtain ⟨⟨vs, a1, a2⟩, _⟩ := ent_two (X := X) T.pr
          refine PySem.W.kdu_collect (KdlSrc.rawDict T.sys) hh T.rw.ob hsz fun h' tk acc hkeep hacc => ?_
          have hlen : vs.length = kvs.length := by have := a1.length; simpa using this
          have hv : Vals vs acc.toList := vals_at (by rw [hlen, ← T.size, ← hacc.1]; simp) fun j u e => by
            obtain ⟨hi, e2⟩ := hacc.2 j u (by rw [← Array.getElem?_toList]; exact e)
            refine vals_ix a2 (j := j) ?_
            rw [List.getElem?_map, Array.getElem?_toList, Array.getElem?_eq_getElem hi, e2]
            rfl
          exact q h' tk _ vs hkeep a1 hv (by rw [← hv.length, hlen]; exact T.le)
    | _ => cases e
def dSortD : DCall := fun ds S R => ∃ d xs, ds = [d] ∧ srcD S d = some xs ∧ Srt xs ∧ ∀ ys, ys.Perm xs → ys.Pairwise (fun a b => ltT b a = false) → R (.loc S.length) (S ++ [.lst ys])
theorem isTuple_keep {h h' : Heap} {a : Addr} {vs : List Value} {n : Nat} (ha : h.get? a = some (seqObj "list" vs.toArray n)) (k : ∀ b o, b ≠ a → h.get? b = some o → h'.get? b = some o) : ∀ b us, h.IsTuple b us → h'.IsTuple b us := by
  intro b us ⟨o, h1, h2, n2, h3⟩
  refine ⟨o, k b o (fun e => ?_) h1, h2, n2, h3⟩
  subst e
  rw [ha] at h1
  have h1' := Option.some.inj h1
  rw [← h1'] at h2
  have h2' : Value.type "list" = Value.type "tuple" := h2
  injection h2' with z
  exact absurd z (by decide)
theorem cd_sortD (hc : X.calm = true) (hu : X.A.units + 150 < cLine) : CallR X (.builtin "sorted") (rCD X dSortD) := by
  intro pins s σ H xs us Q I rs ⟨ρ, S, ds, R, W, r, ⟨d, xs', e1, e2, hS, q⟩, p⟩
  subst e1
  obtain ⟨v, rfl, rv⟩ := r.one_of
  obtain ⟨u, rfl, ru⟩ := vals1 rs
  refine Calls.call_function_entry kind_sorted plain_sorted entry_sorted (args_sorted1 _) ?_
  unfold Builtin.«sorted»
  refine wpAny_bind (m := checkCount "sorted" 1 1 _) (wpAny_pure ?_)
  refine wpAny_bind (col_ok (A := X.A.in1) (I.ok.hd hc) I W rv ru e2 fun h1 tk ws vs hk r1 r2 hz => ?_)
  have I1 : L2.Inv X pins σ H { s with heap := h1, toks := tk } := I.kept hk
  refine wpAny_bind (wpAny_newList ?_ hz)
  have hoL : (h1.push (seqObj "list" ws.toArray 0)).get? h1.objs.size = some (seqObj "list" ws.toArray 0) := Heap.get?_push_size _ rfl
  show wpAny _ _ _ _ _ { s with heap := h1.push (seqObj "list" ws.toArray 0), toks := tk }
  have I2 : L2.Inv X pins σ H { s with heap := h1.push (seqObj "list" ws.toArray 0), toks := tk } := I1.kept fun b o e => Heap.get?_push_of_some _ e
  have pl := plVs_of I2 90 xs' vs ws (plains_of hS.plain) r1 r2
  obtain ⟨m1, m2⟩ := rdV_all pl
  refine wpAny_bind (wpAny_holding (wpAny_call_entry slot_list_sort ⟨_, hoL, rfl⟩ entry_list_sort (SrtO.list_sort_ord (s := { s with heap := h1.push (seqObj "list" ws.toArray 0), toks := tk }) (swo_D (rdV_pure (h1.push (seqObj "list" ws.toArray 0)))) hoL hz (fun h2 h' keep => ?_) fun out hs hb => ⟨_, rfl, ?_⟩) (args_list_sort _)))
  · have kt := isTuple_keep hoL keep
    exact srt_cmp (s := { s with heap := h', toks := tk }) (by rw [m1]; exact hS) (fun u hm => (m2 u hm).keep kt) (by show X.A.units + 1 + 1 + 100 < cLine; omega) h2
  · obtain ⟨vs', k1, k2⟩ := perm_vals hb.perm vs (by rw [m1]; exact r1) r2
    obtain ⟨e', he'⟩ := sortedHeap_at (vs := ws) (out := out.toArray) hoL
    have hlen : vs'.length ≤ sizeLine := by rw [k2.length, hb.perm.length_eq]; exact hz
    have hn := I1.hok.fresh (Nat.le_refl h1.objs.size)
    refine wpAny_pure ⟨_, rfl, .ref h1.objs.size, upd H h1.objs.size (.lst vs'), I1.laid (t' := tk) (fun b u e => ?_) (Nat.le_refl _) ⟨hlen, out, e', k2, he'⟩, rfl, new_lst W k1 (q (out.map (rdV (h1.push (seqObj "list" ws.toArray 0)))) ?_ ?_) p hn⟩
    · have hb : b < h1.objs.size := Heap.lt_size e
      rw [sortedHeap_old (Nat.ne_of_lt hb) (by rw [size_push']; exact Nat.lt_succ_of_lt hb)]
      exact Heap.get?_push_of_some _ e
    · rw [← m1]
      exact hb.perm.map _
    · exact List.pairwise_map.mpr (hs.imp fun h => h)
end
end Dl

namespace Dl
open PySem L2 PyProof.Rows PySem.Spec

/-! ## sorted(x, key=f), f a def of the text -/
def LstObj (a : Addr) (xs : Array Value) (e : Nat) (h : Heap) : Prop := h.get? a = some (seqObj "list" xs e)
theorem lst_ok {P : Program} {w : World} {H : Hp} {h : Heap} {a : Addr} {xs : Array Value} {e : Nat} (x : LstObj a xs e h) : ObjOk P w H h a (.ext (LstObj a xs e)) := ⟨x, ⟨_, x⟩, fun h1 h2 y k => k _ y⟩
/-- the keys, one by one -/
def keyGo (sp : DSp) (fin : List D → Sto → Prop) : List D → List D → Sto → Prop
  | [], acc, S => fin acc S
  | d :: r, acc, S => sp [d] S fun k S1 => keyGo sp fin r (acc ++ [k]) S1
/-- what stands behind: the items by their keys -/
def keyFin (xs : List D) (R : DQ) (ks : List D) (S : Sto) : Prop := Srt ks ∧ ks.length = xs.length ∧ ∀ ps : List (D × D), ps.Perm (ks.zip xs) → ps.Pairwise (fun p q => ltT q.1 p.1 = false) → R (.loc S.length) (S ++ [.lst (ps.map (·.2))])
def wSortK (sp : DSp) (wr : WA) : WE := fun τ S R => wr τ S fun ds S1 => ∃ d xs, ds = [d] ∧ srcD S1 d = some xs ∧ keyGo sp (keyFin xs R) xs [] S1
section
variable {X : Cx} {pins : List (Addr × Obj)} {σ : L2.St}
theorem run_fnG_in {A : Around} {E : XK} {k : Nat} {f : Addr} {fd : FuncData} {ps : List Str} {sp : Sp} {H : Hp} {s : Shared} {Q : VK} {us : List Value} {vs : List V} (hA : A.frames = X.A.frames) (F : FnG X.prog X.w X.K X.mg X.base CX0 k f fd ps sp) (hr : RoomG k A) (hb : Binds X.K fd ps [])
    (I : L2.Inv X pins σ H s) (r : Vals vs us) (h : sp vs H Q E) {E' : Value → Shared → Prop} : wpAny (model X.prog X.w) A (call (.ref f) us) (EP X pins σ Q) E' s := by
  have hl : us.length = ps.length := by rw [← r.length]; exact F.len _ _ _ _ h
  have hb' := hb s us I.kIn (by rw [List.append_nil]; exact hl)
  rw [List.append_nil] at hb'
  have e0 : Env0 X.prog X.w X.K X.mg X.base A X.stack s H := { I.env0 with frames := by rw [hA]; exact I.env0.frames }
  refine wpAny_call (codeAny_mono (F.run A X.stack s H ⟨us, []⟩ us vs Q E hr e0 hb' r h) fun r s' hq => ?_)
  cases r with
  | error e => exact False.elim hq
  | ok fl =>
    cases fl with
    | ret u => exact I.after hq
    | next => exact False.elim hq
    | brk => exact False.elim hq
    | cont => exact False.elim hq
theorem mem_zip_fst {ks vs : List Value} : ∀ {p : Keyed}, p ∈ ks.zip vs → p.1 ∈ ks := fun h => (List.of_mem_zip h).1
theorem map_zip_snd {α β : Type} : ∀ {as : List α} {bs : List β}, as.length = bs.length → (as.zip bs).map (·.2) = bs
  | [], [], _ => rfl
  | _ :: as, _ :: bs, h => by
    rw [List.zip_cons_cons, List.map_cons, map_zip_snd (by simpa using h)]
  | [], _ :: _, h => by simp at h
  | _ :: _, [], h => by simp at h
theorem zip_fst_snd {α β : Type} : ∀ ps : List (α × β), (ps.map (·.1)).zip (ps.map (·.2)) = ps
  | [] => rfl
  | p :: ps => by rw [List.map_cons, List.map_cons, List.zip_cons_cons, zip_fst_snd ps]
theorem vals_snoc {vs : List V} {us : List Value} {v : V} {u : Value} (h : Vals vs us) (r : RelV v u) : Vals (vs ++ [v]) (us ++ [u]) := by
  induction h with
  | nil => exact .cons r .nil
  | cons a _ ih => exact .cons a ih
theorem perm_vals2 {K : PySem.W.Frag} {ρ : List Addr} {H : Hp} {rd : Value → D} {arr out : List Keyed} (p : out.Perm arr) : ∀ (xs : List D) (vs : List V), VRs K ρ H xs vs → Vals vs (arr.map (·.2)) →
    ∃ ps : List (D × D), ps.Perm ((arr.map fun q => rd q.1).zip xs) ∧ ps.map (·.1) = out.map (fun q => rd q.1) ∧ ∃ vs', VRs K ρ H (ps.map (·.2)) vs' ∧ Vals vs' (out.map (·.2)) := by
  induction p with
  | nil =>
    intro xs vs h1 h2
    cases h2
    have : xs = [] := h1.of_nil
    subst this
    exact ⟨[], List.Perm.refl _, rfl, [], .nil, .nil⟩
  | cons x _ ih =>
    intro xs vs h1 h2
    rw [List.map_cons] at h2
    cases h2 with
    | @cons v _ vr _ r1 r2 =>
    cases xs with
    | nil => unfold VRs at h1; cases h1
    | cons d xs =>
      unfold VRs at h1
      obtain ⟨v', vr', e, g1, g2⟩ := h1
      cases e
      obtain ⟨ps, k1, k2, vs', k3, k4⟩ := ih xs vr g2 r2
      refine ⟨(rd x.1, d) :: ps, ?_, by rw [List.map_cons, List.map_cons, k2], v :: vs', .cons g1 k3, ?_⟩
      · rw [List.map_cons, List.zip_cons_cons]
        exact k1.cons _
      · rw [List.map_cons]
        exact .cons r1 k4
  | swap x y l =>
    intro xs vs h1 h2
    rw [List.map_cons, List.map_cons] at h2
    cases h2 with
    | @cons v _ vr _ r1 r2 =>
    cases r2 with
    | @cons v2 _ vr2 _ r2 r3 =>
    cases xs with
    | nil => unfold VRs at h1; cases h1
    | cons d xs =>
      unfold VRs at h1
      obtain ⟨v', vr', e, g1, g2⟩ := h1
      cases e
      cases xs with
      | nil => unfold VRs at g2; cases g2
      | cons d2 xs =>
        unfold VRs at g2
        obtain ⟨v', vr', e, g3, g4⟩ := g2
        cases e
        have hl : xs.length = l.length := by
          have a1 := g4.length
          have a2 := r3.length
          simp at a2
          omega
        refine ⟨(rd y.1, d2) :: (rd x.1, d) :: (l.map fun q => rd q.1).zip xs, ?_, ?_, v2 :: v :: vr2, ?_, ?_⟩
        · rw [List.map_cons, List.map_cons, List.zip_cons_cons, List.zip_cons_cons]
          exact List.Perm.swap _ _ _
        · rw [List.map_cons, List.map_cons, List.map_cons, List.map_cons, List.map_fst_zip (by simp [hl])]
        · rw [List.map_cons, List.map_cons, List.map_snd_zip (by simp [hl])]
          exact .cons g3 (.cons g1 g4)
        · rw [List.map_cons, List.map_cons]
          exact .cons r2 (.cons r1 r3)
  | trans p1 p2 ih1 ih2 =>
    intro xs vs h1 h2
    obtain ⟨ps, k1, k2, vs', k3, k4⟩ := ih2 xs vs h1 h2
    obtain ⟨ps2, m1, m2, vs2, m3, m4⟩ := ih1 _ vs' k3 k4
    rw [← k2, zip_fst_snd] at m1
    exact ⟨ps2, m1.trans k1, m2, vs2, m3, m4⟩
/-- the state while the keys are made -/
structure KeyI (X : Cx) (pins : List (Addr × Obj)) (σ : L2.St) (ρ : List Addr) (H : Hp) (a kS e1 : Nat) (P : List D → Sto → Prop) (n : Nat) (s' : Shared) : Prop where
  ex : ∃ ρ' S' H' kA e acc kvs, L2.Inv X pins σ H' s' ∧ Ext ρ H ρ' H' ∧ XW X ρ' S' H' ∧ H' a = some (.ext (LstObj a #[] e1)) ∧ H' kS = some (.ext (LstObj kS kA e)) ∧ a ∉ ρ' ∧ kS ∉ ρ' ∧ VRs X.K ρ' H' acc kvs ∧ Vals kvs kA.toList ∧ acc.length = n ∧ P acc S'
section
variable {X : Cx} {pins : List (Addr × Obj)} {σ : L2.St} {ρ : List Addr} {S : Sto} {H : Hp} {s : Shared} {a kS e1 : Nat}
theorem notin_ext {ρ ρ' : List Addr} {H H' : Hp} (x : Ext ρ H ρ' H') {b : Addr} (h : b ∉ ρ) (g : ∃ o, H b = some o) : b ∉ ρ' := by
  obtain ⟨more, rfl, h2⟩ := x.pre
  intro hb
  rcases List.mem_append.mp hb with hb | hb
  · exact h hb
  · obtain ⟨o, ho⟩ := g
    rw [h2 b hb] at ho
    cases ho
/-- what stands aside is rewritten -/
theorem ext_aside {ρ ρ' : List Addr} {H H' : Hp} {b : Addr} {u : HO} (x : Ext ρ H ρ' H') (h : H b = none) : Ext ρ H ρ' (upd H' b u) :=
  ⟨x.pre, fun c o hc hn => by
    have ne : c ≠ b := fun e => by rw [e, h] at hc; cases hc
    rw [upd_ne ne]
    exact x.keep c o hc hn⟩
theorem key_loop {A : Around} {E : Value → Shared → Prop} {k : Nat} {f : Addr} {fd : FuncData} {ps : List Str} {sp : DSp} {fin : List D → Sto → Prop} {xs : List D} {vs : List V} {ws : List Value} {Q : PUnit → Shared → Prop}
    (hA : A.frames = X.A.frames) (F : FnG X.prog X.w X.K X.mg X.base CX0 k f fd ps (spD X.w X.K X.mg sp)) (hr : RoomG k A) (hb : Binds X.K fd ps []) (Se : Sep ρ H) (r1 : VRs X.K ρ H xs vs) (r2 : Vals vs ws) (hz : ws.length ≤ sizeLine) (ha : H a = none) (hk : H kS = none) (hak : kS ≠ a)
    (J : KeyI X pins σ ρ H a kS e1 (fun acc S' => keyGo sp fin (xs.drop 0) acc S') 0 s) (q : ∀ s', KeyI X pins σ ρ H a kS e1 fin xs.length s' → Q ⟨⟩ s') :
    wpAny (model X.prog X.w) A (forIn ws PUnit.unit fun x _ => do
      match ← (call (.ref f) [x]).attempt with
      | .ok k => Builtin.List.listUpdate (.ref kS) (·.push k); pure (ForInStep.yield PUnit.unit)
      | .error e =>
        rule "list.sort.key-raised"
        let made ← Builtin.List.listItems (.ref kS)
        Builtin.List.listUpdate (.ref kS) fun _ => #[]
        letGo made.toList.reverse [e]
        Builtin.List.listUpdate (.ref a) fun _ => ws.toArray
        throw e) Q E s := by
  have hlen : ws.length = xs.length := by rw [← r2.length, r1.length]
  refine ksk_fold (fun i s' => KeyI X pins σ ρ H a kS e1 (fun acc S' => keyGo sp fin (xs.drop i) acc S') i s') ws 0 s J (fun j x s' hx hJ => ?_) fun s' hJ => ?_
  · simp only [Nat.zero_add] at hJ ⊢
    obtain ⟨ρ', S', H', kA, e, acc, kvs, I', x', W', h1, h2, h3, h4, h5, h6, h7, hp⟩ := hJ.ex
    have hj : j < xs.length := by rw [← hlen]; exact (List.getElem?_eq_some_iff.mp hx).1
    obtain ⟨d, hd⟩ : ∃ d, xs[j]? = some d := ⟨_, List.getElem?_eq_getElem hj⟩
    obtain ⟨v, hv, rv⟩ := r1.get hd
    obtain ⟨v', hv', ru⟩ := vals_ix r2 hx
    rw [hv] at hv'
    cases hv'
    have ed : xs.drop j = d :: xs.drop (j + 1) := by
      rw [List.drop_eq_getElem_cons hj]
      congr 1
      rw [List.getElem?_eq_getElem hj] at hd
      exact Option.some.inj hd
    rw [ed] at hp
    have hkz : kA.size < sizeLine := by
      have q1 : kvs.length = kA.size := by have := h6.length; simpa using this
      have q2 := h5.length
      omega
    refine wpAny_bind (wpAny_attempt (wpAny_mono (run_fnG_in (E := fun _ _ _ => False) (E' := fun _ _ => False) (Q := fun v2 H2 => ∃ ρ2 S2 d2, Ext ρ' H' ρ2 H2 ∧ XW X ρ2 S2 H2 ∧ VR X.K ρ2 H2 d2 v2 ∧ keyGo sp fin (xs.drop (j + 1)) (acc ++ [d2]) S2) hA F hr hb I' (.cons ru .nil)
      ⟨ρ', S', [d], _, W', .cons (rv.ext Se x') .nil, hp, fun d2 S2 g ρ2 H2 v2 x2 W2 rv2 => ⟨ρ2, S2, d2, x2, W2, rv2, g⟩⟩) (fun u s2 hu => ?_) fun _ _ z => z.elim))
    obtain ⟨v2, H2, I2, ru2, ρ2, S2, d2, x2, W2, rv2, g⟩ := hu
    dsimp only
    have k1 : H2 a = some (.ext (LstObj a #[] e1)) := x2.keep a _ h1 h3
    have k2 : H2 kS = some (.ext (LstObj kS kA e)) := x2.keep kS _ h2 h4
    have n1 := notin_ext x2 h3 ⟨_, h1⟩
    have n2 := notin_ext x2 h4 ⟨_, h2⟩
    have ob : s2.heap.get? kS = some (seqObj "list" kA e) := (I2.hok kS _ k2).1
    obtain ⟨e', he'⟩ : ∃ e', (s2.heap.update kS (Obj.mapSeq (·.push u))).get? kS = some (seqObj "list" (kA.push u) e') := ⟨_, get?_update_seq ob (·.push u)⟩
    refine wpAny_bind (listUpdate_at ob rfl ?_ (Nat.le_of_lt hkz) (by rw [Array.size_push]; omega))
    refine wpAny_pure ⟨rfl, ⟨ρ2, S2, upd H2 kS (.ext (LstObj kS (kA.push u) e')), kA.push u, e', acc ++ [d2], kvs ++ [v2], ?_, ?_, ?_, ?_, upd_same, n1, n2, ?_, ?_, ?_, g⟩⟩
    · exact d_write (t' := s2.toks) I2 (by rw [k2]; exact True.intro) (Heap.SameBut.update ..) ⟨_, he'⟩ (lst_ok he')
    · exact ext_aside (x'.trans W'.sep x2) hk
    · exact W2.aside n2 k2 (fun vs q => by cases q) fun x y q => by cases q
    · rw [upd_ne hak.symm]; exact k1
    · have vx : VX ρ2 H2 ρ2 (upd H2 kS (.ext (LstObj kS (kA.push u) e'))) := vx_upd k2 (fun vs q => by cases q) fun x y q => by cases q
      exact VRs.snoc (VRs.vx vx _ _ (h5.ext W'.sep x2)) (VR.vx vx _ _ rv2)
    · rw [Array.toList_push]
      exact vals_snoc h6 ru2
    · simp [h7]
  · refine q s' ?_
    simp only [Nat.zero_add] at hJ
    obtain ⟨ρ', S', H', kA, e, acc, kvs, I', x', W', h1, h2, h3, h4, h5, h6, h7, hp⟩ := hJ.ex
    rw [List.drop_of_length_le (by omega)] at hp
    exact ⟨ρ', S', H', kA, e, acc, kvs, I', x', W', h1, h2, h3, h4, h5, h6, by rw [h7, hlen], hp⟩
/-- the sorted list stands -/
theorem key_tail {A : Around} {E : Value → Shared → Prop} {xs : List D} {vs : List V} {ws : List Value} {R : DQ} {Q : VK} {P : PySem.Fin → Shared → Prop} {ρ' : List Addr} {S' : Sto} {H' : Hp} {kA : Array Value} {e : Nat} {acc : List D} {kvs : List V} {st : SortSt}
    (I : L2.Inv X pins σ H' s) (x : Ext ρ H ρ' H') (W0 : XW X ρ S H) (W : XW X ρ' S' H') (h1 : H' a = some (.ext (LstObj a #[] e1))) (h2 : H' kS = some (.ext (LstObj kS kA e))) (h3 : a ∉ ρ') (h4 : kS ∉ ρ') (ha : H a = none) (hk : H kS = none) (hak : kS ≠ a)
    (r1 : VRs X.K ρ H xs vs) (r2 : Vals vs ws) (hz : ws.length ≤ sizeLine) (h5 : VRs X.K ρ' H' acc kvs) (h6 : Vals kvs kA.toList) (hl : acc.length = xs.length) (hS : Srt acc) (hf : failedOf st = none)
    (hp : (arrOf st).toList.Perm (kA.zip ws.toArray).toList) (hs : (arrOf st).toList.Pairwise (fun p q => ltT (rdV s.heap q.1) (rdV s.heap p.1) = false))
    (q : ∀ ps : List (D × D), ps.Perm (acc.zip xs) → ps.Pairwise (fun p q => ltT q.1 p.1 = false) → R (.loc S'.length) (S' ++ [.lst (ps.map (·.2))])) (p : PassE X ρ H R Q)
    (fin : ∀ s', EP X pins σ Q (.ref a) s' → P (.done (.ret .none)) s') : wpAny (model X.prog X.w) A (ksk_tail a false e1 (.ref kS) st) P E s := by
  have q1 : kvs.length = kA.size := by have := h6.length; simpa using this
  have q2 := h5.length
  have q3 := r1.length
  have q4 := r2.length
  have hks : kA.size = ws.length := by omega
  have pl := plVs_of I 90 acc kvs kA.toList (plains_of hS.plain) h5 h6
  obtain ⟨m1, m2⟩ := rdV_all pl
  have hzip : (kA.zip ws.toArray).toList = kA.toList.zip ws := by simp [Array.toList_zip]
  rw [hzip] at hp
  have hsnd : (kA.toList.zip ws).map (·.2) = ws := map_zip_snd (by simp [hks])
  have hfst : (kA.toList.zip ws).map (fun q => rdV s.heap q.1) = acc := by
    rw [← m1]
    have : (kA.toList.zip ws).map (fun q => rdV s.heap q.1) = ((kA.toList.zip ws).map (·.1)).map (rdV s.heap) := by rw [List.map_map]; rfl
    rw [this, List.map_fst_zip (by simp [hks])]
  obtain ⟨ps, k1, k2, vs', k3, k4⟩ := perm_vals2 (rd := rdV s.heap) hp xs vs (r1.ext W0.sep x) (by rw [hsnd]; exact r2)
  rw [hfst] at k1
  have hsz : (arrOf st).size = ws.length := by
    have := hp.length_eq
    simp [hks] at this
    omega
  have ob : s.heap.get? kS = some (seqObj "list" kA e) := (I.hok kS _ h2).1
  have oa : s.heap.get? a = some (seqObj "list" #[] e1) := (I.hok a _ h1).1
  unfold ksk_tail
  dsimp only
  refine wpAny_bind (listUpdate_at ob rfl ?_ (by omega) (Nat.zero_le _))
  refine wpAny_bind (wpAny_letGo ?_)
  have s1 := Heap.SameBut.update s.heap kS (Obj.mapSeq fun _ => (#[] : Array Value))
  obtain ⟨e', he'⟩ : ∃ e', (s.heap.update kS (Obj.mapSeq fun _ => (#[] : Array Value))).get? kS = some (seqObj "list" #[] e') := ⟨_, get?_update_seq ob (fun _ => #[])⟩
  have oa1 : (s.heap.update kS (Obj.mapSeq fun _ => (#[] : Array Value))).get? a = some (seqObj "list" #[] e1) := (s1.2 a hak.symm).trans oa
  refine wpAny_bind (seqEpoch_at oa1 rfl ?_)
  have I1 : L2.Inv X pins σ (upd H' kS (.ext (LstObj kS #[] e'))) { s with heap := s.heap.update kS (Obj.mapSeq fun _ => (#[] : Array Value)) } := d_write (t' := s.toks) I (by rw [h2]; exact True.intro) s1 ⟨_, he'⟩ (lst_ok he')
  have W1 : XW X ρ' S' (upd H' kS (.ext (LstObj kS #[] e'))) := W.aside h4 h2 (fun vs q => by cases q) fun x y q => by cases q
  have h1' : upd H' kS (.ext (LstObj kS #[] e')) a = some (.ext (LstObj a #[] e1)) := by rw [upd_ne hak.symm]; exact h1
  have vx1 : VX ρ' H' ρ' (upd H' kS (.ext (LstObj kS #[] e'))) := vx_upd h2 (fun vs q => by cases q) fun x y q => by cases q
  have x1 : Ext ρ H ρ' (upd H' kS (.ext (LstObj kS #[] e'))) := ext_aside x hk
  have k3' := VRs.vx vx1 _ _ k3
  generalize upd H' kS (.ext (LstObj kS #[] e')) = H1 at I1 W1 h1' x1 k3'
  have hout : ((arrOf st).map (·.2)).size = ws.length := by rw [Array.size_map]; exact hsz
  obtain ⟨e2, he2⟩ : ∃ e2, ((s.heap.update kS (Obj.mapSeq fun _ => (#[] : Array Value))).update a (Obj.mapSeq fun _ => (arrOf st).map (·.2))).get? a = some (seqObj "list" ((arrOf st).map (·.2)) e2) := ⟨_, get?_update_seq oa1 fun _ => (arrOf st).map (·.2)⟩
  refine wpAny_bind (listUpdate_at oa1 rfl ?_ (Nat.zero_le _) (by show ((arrOf st).map (·.2)).size ≤ sizeLine + 1; omega))
  rw [hf]
  simp only [bne_self_eq_false, Bool.false_eq_true, if_false]
  refine wpAny_pure (fin _ ?_)
  have vx2 : VX ρ' H1 ρ' (upd H1 a (.lst vs')) := vx_upd h1' (fun vs q => by cases q) fun x y q => by cases q
  have vx3 : VX ρ' (upd H1 a (.lst vs')) (ρ' ++ [a]) (upd H1 a (.lst vs')) := ⟨fun l b hh => by
    rw [List.getElem?_append_left (List.getElem?_eq_some_iff.mp hh).1]
    exact hh, fun _ _ hh => hh, fun _ _ _ hh => hh⟩
  have hlen : vs'.length ≤ sizeLine := by
    rw [k4.length, List.length_map, Array.length_toList, hsz]
    exact hz
  have eo : ((arrOf st).toList.map (·.2)).toArray = (arrOf st).map (·.2) := by rw [← Array.toList_map, Array.toArray_toList]
  refine ⟨.ref a, upd H1 a (.lst vs'), d_write (s := { s with heap := s.heap.update kS (Obj.mapSeq fun _ => (#[] : Array Value)) }) (t' := s.toks) I1 (by rw [h1']; exact True.intro) (Heap.SameBut.update ..) ⟨_, he2⟩ ⟨hlen, _, e2, k4, by rw [eo]; exact he2⟩, rfl, ?_⟩
  have hps : ps.Pairwise (fun p q => ltT q.1 p.1 = false) := by
    have h : ((arrOf st).toList.map fun q : Keyed => rdV s.heap q.1).Pairwise (fun p q => ltT q p = false) := List.pairwise_map.mpr hs
    rw [← k2] at h
    exact List.pairwise_map.mp h
  refine p _ _ (q ps k1 hps) (ρ' ++ [a]) _ _ ⟨?_, fun b o hb nb => ?_⟩ ((W1.aside h3 h1' (fun vs q => by cases q) fun x y q => by cases q).adopt h3 ⟨vs', upd_same, VRs.vx vx3 _ _ (VRs.vx vx2 _ _ k3')⟩) (.loc (by rw [← W.len]; exact List.getElem?_concat_length ..))
  · obtain ⟨more, e3, e4⟩ := x.pre
    refine ⟨more ++ [a], by rw [e3, List.append_assoc], fun b hb => ?_⟩
    rcases List.mem_append.mp hb with z | z
    · exact e4 b z
    · rw [List.mem_singleton.mp z]; exact ha
  · have hba : b ≠ a := fun z => by rw [z, ha] at hb; cases hb
    rw [upd_ne hba]
    exact x1.keep b o hb nb
theorem key_end {A : Around} {E : Value → Shared → Prop} {xs : List D} {vs : List V} {ws : List Value} {R : DQ} {Q : VK} {P : PySem.Fin → Shared → Prop} {ρ' : List Addr} {S' : Sto} {H' : Hp} {kA : Array Value} {e : Nat} {acc : List D} {kvs : List V}
    (hu : A.units + 100 < cLine) (I : L2.Inv X pins σ H' s) (x : Ext ρ H ρ' H') (W0 : XW X ρ S H) (W : XW X ρ' S' H') (h1 : H' a = some (.ext (LstObj a #[] e1))) (h2 : H' kS = some (.ext (LstObj kS kA e))) (h3 : a ∉ ρ') (h4 : kS ∉ ρ') (ha : H a = none) (hk : H kS = none) (hak : kS ≠ a)
    (r1 : VRs X.K ρ H xs vs) (r2 : Vals vs ws) (hz : ws.length ≤ sizeLine) (h5 : VRs X.K ρ' H' acc kvs) (h6 : Vals kvs kA.toList) (hF : keyFin xs R acc S') (p : PassE X ρ H R Q)
    (fin : ∀ s', EP X pins σ Q (.ref a) s' → P (.done (.ret .none)) s') : wpAny (model X.prog X.w) A (ksk_end a false ws.toArray e1 (.ref kS) kA) P E s := by
  obtain ⟨hS, hl, q⟩ := hF
  have q1 : kvs.length = kA.size := by have := h6.length; simpa using this
  have q2 := h5.length
  have q3 := r1.length
  have q4 := r2.length
  have hks : kA.size = ws.length := by omega
  have pl := plVs_of I 90 acc kvs kA.toList (plains_of hS.plain) h5 h6
  obtain ⟨m1, m2⟩ := rdV_all pl
  unfold ksk_end
  dsimp only
  simp only [Bool.false_eq_true, if_false, List.size_toArray]
  by_cases hn : ws.length < 2
  · simp only [if_pos hn]
    refine wpAny_bind (wpAny_pure ?_)
    rw [StateT.run_pure]
    refine wpAny_bind (wpAny_pure ?_)
    dsimp only
    refine key_tail (st := SortSt.mk' general' (kA.zip ws.toArray) #[] 7 none) I x W0 W h1 h2 h3 h4 ha hk hak r1 r2 hz h5 h6 hl hS rfl (List.Perm.refl _) ?_ q p fin
    have hlen : (kA.zip ws.toArray).toList.length < 2 := by simp; omega
    show (kA.zip ws.toArray).toList.Pairwise _
    match (kA.zip ws.toArray).toList, hlen with
    | [], _ => exact .nil
    | [_], _ => exact List.pairwise_singleton _ _
    | _ :: _ :: _, h => simp at h; omega
  · simp only [if_neg hn]
    obtain ⟨κ, hkind, hT⟩ := srt_cmp (prog := X.prog) (w := X.w) (A := A) (s := s) (rd := rdV s.heap) (us := kA.toList) (by rw [m1]; exact hS) m2 hu (by simp; omega)
    have hkind' := hkind (fun k s' => k = κ ∧ s' = s) E ⟨rfl, rfl⟩
    rw [Array.toArray_toList] at hkind'
    refine wpAny_bind (wpAny_mono hkind' (fun k s' hk' => ?_) fun _ _ z => z)
    obtain ⟨rfl, rfl⟩ := hk'
    have hall : SrtO.AllL (fun p : Keyed => p.1 ∈ kA.toList) (kA.zip ws.toArray).toList := fun p hm => by
      have : p ∈ kA.toList.zip ws := by simpa [Array.toList_zip] using hm
      exact mem_zip_fst this
    have O : SrtO.Swo (fun p q : Keyed => ltT (rdV s'.heap p.1) (rdV s'.heap q.1)) := ⟨fun x y => (swo_D (rdV_pure s'.heap)).asym x.1 y.1, fun x y z => (swo_D (rdV_pure s'.heap)).tr x.1 y.1 z.1⟩
    refine wpAny_bind (wpAny_mono (SrtO.wpS_sortO (st0 := SortSt.mk' k (kA.zip ws.toArray) #[] 7 none) (Q := fun _ st' => SrtO.Srtd (fun p q : Keyed => ltT (rdV s'.heap p.1) (rdV s'.heap q.1)) (arrOf st').toList ∧ SrtO.Stb (fun p q : Keyed => ltT (rdV s'.heap p.1) (rdV s'.heap q.1)) (arrOf st').toList (kA.zip ws.toArray).toList ∧ failedOf st' = none) O hT rfl hall rfl rfl fun st' a1 a2 a3 => ⟨a1, a2, a3⟩) ?_ fun _ _ z => z)
    rintro ⟨⟨⟩, st'⟩ s2 ⟨rfl, hp1, hp2, hf⟩
    dsimp only
    exact key_tail I x W0 W h1 h2 h3 h4 ha hk hak r1 r2 hz h5 h6 hl hS hf hp2.perm hp1 q p fin
end
end
end Dl

namespace Dl
open PySem L2 PyProof.Rows PySem.Spec

/-! ## sorted(x, key=f) -/
section
variable {X : Cx} {pins : List (Addr × Obj)} {σ : L2.St} {ρ : List Addr} {S : Sto} {H : Hp} {s : Shared}
/-- list.sort of a new list of the items ws, by the keys that the def at f makes -/
theorem key_sort {A : Around} {E : Value → Shared → Prop} {k : Nat} {f : Addr} {fd : FuncData} {ps : List Str} {sp : DSp} {xs : List D} {vs : List V} {ws : List Value} {R : DQ} {Q : VK} {P : PySem.Fin → Shared → Prop}
    (hA : A.frames = X.A.frames) (F : FnG X.prog X.w X.K X.mg X.base CX0 k f fd ps (spD X.w X.K X.mg sp)) (hr : RoomG k A) (hb : Binds X.K fd ps []) (hu : A.units + 100 < cLine) (I : L2.Inv X pins σ H s) (W : XW X ρ S H)
    (r1 : VRs X.K ρ H xs vs) (r2 : Vals vs ws) (hz : ws.length ≤ sizeLine) (hg : keyGo sp (keyFin xs R) xs [] S) (p : PassE X ρ H R Q) (fin : ∀ s', EP X pins σ Q (.ref s.heap.objs.size) s' → P (.done (.ret .none)) s') :
    wpAny (model X.prog X.w) A (ksk_tree s.heap.objs.size (.ref f) false) P E { s with heap := s.heap.push (seqObj "list" ws.toArray 0) } := by
  have ho : (s.heap.push (seqObj "list" ws.toArray 0)).get? s.heap.objs.size = some (seqObj "list" ws.toArray 0) := Heap.get?_push_size _ rfl
  have ha0 : H s.heap.objs.size = none := I.hok.fresh (Nat.le_refl _)
  have s1 := Heap.SameBut.update (s.heap.push (seqObj "list" ws.toArray 0)) s.heap.objs.size (Obj.mapSeq fun _ => (#[] : Array Value))
  obtain ⟨e1, ho1⟩ : ∃ e1, ((s.heap.push (seqObj "list" ws.toArray 0)).update s.heap.objs.size (Obj.mapSeq fun _ => (#[] : Array Value))).get? s.heap.objs.size = some (seqObj "list" #[] e1) := ⟨_, get?_update_seq ho fun _ => #[]⟩
  have hsz : ((s.heap.push (seqObj "list" ws.toArray 0)).update s.heap.objs.size (Obj.mapSeq fun _ => (#[] : Array Value))).objs.size = s.heap.objs.size + 1 := by rw [Heap.size_update, size_push']
  have keep1 : ∀ b u, s.heap.get? b = some u → ((s.heap.push (seqObj "list" ws.toArray 0)).update s.heap.objs.size (Obj.mapSeq fun _ => (#[] : Array Value))).get? b = some u := fun b u e =>
    (s1.2 b (Nat.ne_of_lt (Heap.lt_size e))).trans (Heap.get?_push_of_some _ e)
  unfold ksk_tree
  refine wpAny_bind (listItems_at ho rfl ?_)
  refine wpAny_bind (listUpdate_at ho rfl ?_ (by simpa using hz) (Nat.zero_le _))
  refine wpAny_bind (seqEpoch_at ho1 rfl ?_)
  refine wpAny_bind (wpAny_newTuple ?_ (by simpa using hz))
  refine wpAny_bind (wpAny_newList ?_ (Nat.zero_le _))
  refine wpAny_holding ?_
  generalize hh3 : (s.heap.push (seqObj "list" ws.toArray 0)).update s.heap.objs.size (Obj.mapSeq fun _ => (#[] : Array Value)) = h3 at ho1 hsz keep1 ⊢
  have I4 : L2.Inv X pins σ (upd H s.heap.objs.size (.ext (LstObj s.heap.objs.size #[] e1))) { s with heap := h3.push (seqObj "tuple" ws.toArray 0), toks := s.toks } :=
    I.laid (a := s.heap.objs.size) (fun b u e => Heap.get?_push_of_some _ (keep1 b u e)) (Nat.le_refl _) (lst_ok (Heap.get?_push_of_some _ ho1))
  have hkS : (h3.push (seqObj "tuple" ws.toArray 0)).objs.size = s.heap.objs.size + 2 := by rw [size_push', hsz]
  have hk4 : upd H s.heap.objs.size (.ext (LstObj s.heap.objs.size #[] e1)) (h3.push (seqObj "tuple" ws.toArray 0)).objs.size = none := I4.hok.fresh (Nat.le_refl _)
  have hne : (h3.push (seqObj "tuple" ws.toArray 0)).objs.size ≠ s.heap.objs.size := by rw [hkS]; omega
  have hk0 : H (h3.push (seqObj "tuple" ws.toArray 0)).objs.size = none := by rw [upd_ne hne] at hk4; exact hk4
  have W4 : XW X ρ S (upd H s.heap.objs.size (.ext (LstObj s.heap.objs.size #[] e1))) := W.laid ha0
  have I5 : L2.Inv X pins σ (upd (upd H s.heap.objs.size (.ext (LstObj s.heap.objs.size #[] e1))) (h3.push (seqObj "tuple" ws.toArray 0)).objs.size (.ext (LstObj (h3.push (seqObj "tuple" ws.toArray 0)).objs.size #[] 0)))
      { s with heap := (h3.push (seqObj "tuple" ws.toArray 0)).push (seqObj "list" #[] 0), toks := s.toks } :=
    I4.laid (fun b u e => Heap.get?_push_of_some _ e) (Nat.le_refl _) (lst_ok (Heap.get?_push_size _ rfl))
  have W5 := W4.laid (u := .ext (LstObj (h3.push (seqObj "tuple" ws.toArray 0)).objs.size #[] 0)) hk4
  have x4 : Ext ρ H ρ (upd H s.heap.objs.size (.ext (LstObj s.heap.objs.size #[] e1))) := ext_new ha0
  have x5 := ext_aside (u := .ext (LstObj (h3.push (seqObj "tuple" ws.toArray 0)).objs.size #[] 0)) x4 hk0
  show wpAny (model X.prog X.w) A (ksk_rest s.heap.objs.size (.ref f) false ws.toArray e1 (.ref (h3.push (seqObj "tuple" ws.toArray 0)).objs.size)) P E { s with heap := (h3.push (seqObj "tuple" ws.toArray 0)).push (seqObj "list" #[] 0) }
  generalize (h3.push (seqObj "tuple" ws.toArray 0)).objs.size = kS at hk0 hne I5 W5 x5 hk4 ⊢
  generalize hH5 : upd (upd H s.heap.objs.size (.ext (LstObj s.heap.objs.size #[] e1))) kS (.ext (LstObj kS #[] 0)) = H5 at I5 W5 x5
  have g1 : H5 s.heap.objs.size = some (.ext (LstObj s.heap.objs.size #[] e1)) := by rw [← hH5, upd_ne hne.symm, upd_same]
  have g2 : H5 kS = some (.ext (LstObj kS #[] 0)) := by rw [← hH5, upd_same]
  unfold ksk_rest
  refine wpAny_bind (wpAny_rule ?_)
  rw [List.forIn_toArray]
  refine wpAny_bind (key_loop (ρ := ρ) (H := H) (xs := xs) (vs := vs) hA F hr hb W.sep r1 r2 hz ha0 hk0 hne ⟨ρ, S, H5, #[], 0, [], [], I5, x5, W5, g1, g2, W.notin ha0, W.notin hk0, .nil, .nil, rfl, hg⟩ fun s' J => ?_)
  obtain ⟨ρ', S', H', kA, e, acc, kvs, I', x', W', h1, h2, h3', h4, h5, h6, h7, hp⟩ := J.ex
  have ob : s'.heap.get? kS = some (seqObj "list" kA e) := (I'.hok kS _ h2).1
  refine wpAny_bind (listItems_at ob rfl ?_)
  exact key_end hu I' x' W W' h1 h2 h3' h4 ha0 hk0 hne r1 r2 hz h5 h6 hp p fin
end
section
variable {X : Cx} {pos p p2 kpos : Pos} {e : Expr} {wr : WA} {x : Str} {k : Nat} {sp : DSp}
theorem de_sortK (F : FnD X.prog X.w X.K X.mg X.base k x sp) (hr : RoomG (k + 2) X.A) (hc : X.calm = true) (hu : X.A.units + 150 < cLine) (hm : X.mg "sorted" = none) (hg : Gl X "sorted") (hgx : Gl X x) (ha : PA X [e] (dA X wr))
    (hdx : (x == ("__debug__" : Str)) = false := by decide)
    (hes : backTo pos (starEach [e] X.env) = (false, eval e X.env) :: backTo pos (starEach [] X.env) := by rfl) (hpl : (backTo pos (starEach [e] X.env)).any (·.1) = false := by rfl)
    (hall : (backToKw pos (keywordEach [⟨some "key", .Name x p2, kpos⟩] X.env)).all (·.1.isSome) = true := by rfl) (hnone : (backToKw pos (keywordEach [⟨some "key", .Name x p2, kpos⟩] X.env)).any (·.1.isNone) = false := by rfl) (hks : (backToKw pos (keywordEach [⟨some "key", .Name x p2, kpos⟩] X.env)).filterMap (·.1) = [Str.ofString "key"] := by rfl) :
    PE X (.Call (.Name "sorted" p) [e] [⟨some "key", .Name x p2, kpos⟩] pos) (dE X (wSortK sp wr)) := by
  obtain ⟨f, fd, ps, h1, h2, h3, h4⟩ := F.ex
  have hcr : CallRK X (.builtin "sorted") [Str.ofString "key"] (fun vs zs H Q => zs = [V.ref f] ∧ ∃ ρ S d xs R, XW X ρ S H ∧ VRs X.K ρ H [d] vs ∧ srcD S d = some xs ∧ keyGo sp (keyFin xs R) xs [] S ∧ PassE X ρ H R Q) := by
    intro pins s σ H vs zs us ws Q I r rz ⟨ez, ρ, S, d, xs, R, W, rd, es, hgo, pe⟩
    subst ez
    obtain ⟨v, rfl, rv⟩ := rd.one_of
    obtain ⟨u, rfl, ru⟩ := vals1 r
    obtain ⟨w1, rfl, e1⟩ := vals1 rz
    cases (show w1 = Value.ref f from e1)
    refine call_function_entry_kw kind_sorted plain_sorted entry_sorted (ksk_s1 _ _) ?_
    unfold Builtin.«sorted»
    refine wpAny_bind (m := checkCount "sorted" 1 1 _) (wpAny_pure ?_)
    refine wpAny_bind (col_ok (A := X.A.in1) (I.ok.hd hc) I W rv ru es fun h1' tk ws' vs' hk r1 r2 hz => ?_)
    have I1 : L2.Inv X pins σ H { s with heap := h1', toks := tk } := I.kept hk
    refine wpAny_bind (wpAny_newList ?_ hz)
    have hoL : (h1'.push (seqObj "list" ws'.toArray 0)).get? h1'.objs.size = some (seqObj "list" ws'.toArray 0) := Heap.get?_push_size _ rfl
    show wpAny _ _ _ _ _ { s with heap := h1'.push (seqObj "list" ws'.toArray 0), toks := tk }
    refine wpAny_bind (wpAny_holding (wpAny_call_entry_kw slot_list_sort ⟨_, hoL, rfl⟩ entry_list_sort ?_ (ksk_l1 _ _)))
    show wpAny _ _ (Builtin.«list.sort» ⟨[.ref h1'.objs.size], [(Str.ofString "key", .ref f)]⟩) _ _ _
    rw [ksk_t1]
    refine key_sort (s := { s with heap := h1', toks := tk }) (A := X.A.in1.in1) rfl h1 ⟨⟨hr.room.hd, ?_, ?_⟩, hr.gd⟩ h4 (by show X.A.units + 1 + 1 + 100 < cLine; omega) I1 W r1 r2 hz hgo pe fun s' q => ⟨_, rfl, wpAny_pure ⟨_, rfl, q⟩⟩
    · have := hr.room.dp
      show X.A.depth + 3 * k + 5 < recursionLimit
      omega
    · have := hr.room.un
      show X.A.units + 1 + 1 + 16 * k + 200 < cLine
      omega
  refine PE.imp (pe_callBK hcr hg hm (by rfl) ha (pk_cons (pe_glob (v := .ref f) hgx h2 rfl hdx) pk_nil) (by decide) (by decide) hes hpl hall hnone hks) fun σ H Q ⟨ρ, τ, S, R, W, er, h, pe⟩ => ?_
  refine ⟨ρ, τ, S, _, W, er, h, fun ds S1 ⟨d, xs, e1, e2, e3⟩ ρ1 H1 vs x1 W1 r => ?_⟩
  subst e1
  exact ⟨rfl, ρ1, S1, d, xs, R, W1, r, e2, e3, pe.ext W1 x1⟩
end
section
variable {τ : DEnv} {S : Sto} {R : DQ} {sp : DSp} {wr : WA}
@[simp ↓] theorem wSortK_ap : wSortK sp wr τ S R = wr τ S fun ds S1 => ∃ d xs, ds = [d] ∧ srcD S1 d = some xs ∧ keyGo sp (keyFin xs R) xs [] S1 := rfl
theorem keyGo_run {xs acc : List D} {fin : List D → Sto → Prop} (f : D → D) (I : Sto → Prop) (hI : I S) (hs : ∀ d S' (N : DQ), d ∈ xs → I S' → (∀ S'', I S'' → N (f d) S'') → sp [d] S' N) (h0 : ∀ S', I S' → fin (acc ++ xs.map f) S') : keyGo sp fin xs acc S := by
  induction xs generalizing acc S with
  | nil => simpa [keyGo] using h0 S hI
  | cons d xs ih =>
    unfold keyGo
    refine hs d S _ List.mem_cons_self hI fun S'' I'' => ih I'' (fun c S' N hc => hs c S' N (List.mem_cons_of_mem _ hc)) fun S' I' => ?_
    have := h0 S' I'
    simpa using this
end
end Dl

namespace Dl
open PySem L2

/-! ## while by a measure; orders kept aside -/
theorem whileN_run {c : WT} {b : WS} {R : DEnds} (I : Nat → DEnv → Sto → Prop)
    (hs : ∀ m τ S (N : DEnv → Sto → Prop), I m τ S → (∀ k τ' S', k < m → I k τ' S' → N τ' S') → c τ S fun v S1 => if v = true then b { nx := N, ct := N, bk := R.nx, rt := R.rt } τ S1 else R.nx τ S1) :
    ∀ (n m : Nat) (τ : DEnv) (S : Sto), m < n → I m τ S → whileN c b n R τ S
  | 0, m, _, _, h, _ => by omega
  | n + 1, m, τ, S, h, hI => hs m τ S _ hI fun k τ' S' hk hI' => whileN_run I hs n k τ' S' (by omega) hI'
/-- a while whose measure sinks -/
theorem while_run {c : WT} {b : WS} {R : DEnds} {τ : DEnv} {S : Sto} (m : Nat) (I : Nat → DEnv → Sto → Prop) (hi : I m τ S)
    (hs : ∀ m τ S (N : DEnv → Sto → Prop), I m τ S → (∀ k τ' S', k < m → I k τ' S' → N τ' S') → c τ S fun v S1 => if v = true then b { nx := N, ct := N, bk := R.nx, rt := R.rt } τ S1 else R.nx τ S1) : wWhile c b R τ S :=
  ⟨m + 1, whileN_run I hs (m + 1) m τ S (Nat.lt_succ_self m) hi⟩
theorem perm_lift {α β : Type} {f : α → β} {ms ns : List β} (p : ms.Perm ns) : ∀ {as : List α}, ns = as.map f → ∃ bs : List α, bs.Perm as ∧ ms = bs.map f := by
  induction p with
  | nil => exact fun h => ⟨[], by cases ‹List α› <;> simp_all, rfl⟩
  | cons x _ ih =>
    intro as h
    cases as with
    | nil => cases h
    | cons a as =>
      simp only [List.map_cons, List.cons.injEq] at h
      obtain ⟨bs, h1, h2⟩ := ih h.2
      exact ⟨a :: bs, h1.cons a, by rw [List.map_cons, ← h.1, h2]⟩
  | swap x y l =>
    intro as h
    match as, h with
    | [], h => cases h
    | [a], h => simp at h
    | a :: b :: as, h =>
      simp only [List.map_cons, List.cons.injEq] at h
      exact ⟨b :: a :: as, List.Perm.swap _ _ _, by rw [List.map_cons, List.map_cons, ← h.1, ← h.2.1, h.2.2]⟩
  | trans _ _ ih1 ih2 =>
    intro as h
    obtain ⟨bs, h1, h2⟩ := ih2 h
    obtain ⟨cs, h3, h4⟩ := ih1 h2
    exact ⟨cs, h3.trans h1, h4⟩
@[simp] theorem dSortD_ap {d : D} {S : Sto} {R : DQ} : dSortD [d] S R = ∃ xs, srcD S d = some xs ∧ Srt xs ∧ ∀ ys, ys.Perm xs → ys.Pairwise (fun a b => ltT b a = false) → R (.loc S.length) (S ++ [.lst ys]) := by simp [dSortD]
mutual
theorem plain_pure : ∀ (n : Nat) (d : D), plainD n d = true → pureD d = true
  | n, .non, _ => rfl
  | n, .int _, _ => rfl
  | n, .str _, _ => rfl
  | 0, .tup ds, h => by simp [plainD] at h
  | n + 1, .tup ds, h => by rw [pureD]; exact plains_pure n ds (plainD_tup.mp h).2
  | n, .bl _, h => by simp [plainD] at h
  | n, .fls _, h => by simp [plainD] at h
  | n, .loc _, h => by simp [plainD] at h
theorem plains_pure : ∀ (n : Nat) (ds : List D), plainsD n ds = true → puresD ds = true
  | n, [], _ => rfl
  | n, d :: ds, h => by
    simp only [plainsD, Bool.and_eq_true] at h
    rw [puresD, plain_pure n d h.1, plains_pure n ds h.2]
    rfl
end
end Dl

namespace Dl
open PySem L2 PyProof.Rows PySem.Spec

/-! ## sets of whole numbers and texts, whose tables can be walked -/
/-- an entry's key -/
def vKey (e : Int × Value) : Key := match e.2 with
  | .int k _ => .inl k
  | .str x _ => .inr x
  | _ => .inl 0
def GoodM (w : World) (e : Int × Value) : Prop := ∃ k, keyIs k e.2 = true ∧ e.1 = keyH w k
theorem vKey_is {w : World} {e : Int × Value} (g : GoodM w e) (k : Key) : keyIs k e.2 = true ↔ vKey e = k := by
  obtain ⟨h, v⟩ := e
  obtain ⟨k0, h1, _⟩ := g
  rcases keyIs_shape h1 with ⟨i, t, rfl, e⟩ | ⟨x, t, rfl, e⟩
  · simp only at e
    subst e
    unfold vKey
    constructor
    · intro q
      rcases keyIs_shape q with ⟨j, u, rfl, e⟩ | ⟨y, u, rfl, e⟩
      · injection e with e1 _; simp [e1]
      · exact nomatch e
    · intro q
      simp only at q
      rw [← q]
      exact keyIs_int _ _
  · simp only at e
    subst e
    unfold vKey
    constructor
    · intro q
      rcases keyIs_shape q with ⟨j, u, rfl, e⟩ | ⟨y, u, rfl, e⟩
      · exact nomatch e
      · injection e with e1 _; simp [e1]
    · intro q
      simp only at q
      rw [← q]
      exact keyIs_str _ _
theorem key_scan {k : Key} {v : Value} (h : keyIs k v = true) : v.scannable = true := by
  rcases keyIs_shape h with ⟨i, t, _, rfl⟩ | ⟨x, t, _, rfl⟩ <;> rfl
/-- the entries, the table, whose members S are -/
structure TbM (w : World) (es : Array (Int × Value)) (t : SetTable) (S : Key → Prop) : Prop where
  good : ∀ e ∈ es.toList, GoodM w e
  nd : (es.toList.map vKey).Nodup
  mem : ∀ k, S k ↔ k ∈ es.toList.map vKey
  bd : es.size < scanBound
  fits : t.fits es.size = true
  ris : Ris t.place.toList
  led : w.params.followText "set-order" = true ∨ t.led = true
def SetM (w : World) (h : Heap) (a : Addr) (S : Key → Prop) (n : Nat) : Prop := ∃ o es ep t, h.get? a = some o ∧ o.ExactSet ∧ o.data = .set es ep t ∧ TbM w es t S ∧ es.size ≤ n
section
variable {P : Program} {w : World} {A : Around} {E : Value → Shared → Prop} {s : Shared} {a : Addr} {S : Key → Prop} {n : Nat}
theorem SetM.at {h h' : Heap} (R : SetM w h a S n) (k : ∀ o, h.get? a = some o → h'.get? a = some o) : SetM w h' a S n :=
  let ⟨o, es, ep, t, ho, r⟩ := R
  ⟨o, es, ep, t, k o ho, r⟩
theorem SetM.congr {h : Heap} {S' : Key → Prop} {m : Nat} (R : SetM w h a S n) (e : ∀ k, S' k ↔ S k) (hm : n ≤ m) : SetM w h a S' m :=
  let ⟨o, es, ep, t, ho, hx, hd, T, hn⟩ := R
  ⟨o, es, ep, t, ho, hx, hd, ⟨T.good, T.nd, fun k => (e k).trans (T.mem k), T.bd, T.fits, T.ris, T.led⟩, Nat.le_trans hn hm⟩
theorem TbM.elems {es : Array (Int × Value)} {t : SetTable} (T : TbM w es t S) : ElemsOf (mixKind P w) es.toList := fun e he => by
  obtain ⟨k, h1, h2⟩ := T.good e he
  exact ⟨⟨k, h1, h2⟩, key_scan h1⟩
/-- the new entry laid, the table grown, where it must -/
theorem lay_tail {g : Bool → Sem Unit} (hg : ∀ (b : Bool) (s₁ : Shared) (Q' : Unit → Shared → Prop), Q' () s₁ → wpAny (model P w) A (g b) Q' E s₁)
    {o : Obj} {es es1 : Array (Int × Value)} {ep : Nat} {t t2 : SetTable} (ho : s.heap.get? a = some o) (hex : o.ExactSet) (hd : o.data = .set es ep t) (T : TbM w es1 t2 S) (hn : es1.size ≤ n) {dummy : Bool} {R : Option Bool → Shared → Prop}
    (hR : ∀ h', Heap.SameBut a s.heap h' → SetM w h' a S n → R (some true) { s with heap := h' }) :
    wpAny (model P w) A (do
        storeSet a es1 t2
        if (!dummy && t2.tooFull) = true then do
            g (relayAll t2 es1 (SetTable.grown es1.size)).2.2
            storeSet a (relayAll t2 es1 (SetTable.grown es1.size)).1 (relayAll t2 es1 (SetTable.grown es1.size)).2.1
            pure (some true)
          else pure (some true)) R E s := by
  refine wpAny_bind (wpAny_storeSet_of ho hd ?_ (fits_of_scanBound T.bd))
  have ho1 := store_at (es' := es1) (t' := t2) ho hd
  have sb1 := Heap.SameBut.update s.heap a (Obj.putSet es1 t2)
  split
  · have pm := relayAll_perm t2 es1 (SetTable.grown es1.size)
    have hf3 := relayAll_fits t2 es1 (SetTable.grown es1.size)
    have hr3 := relayAll_ris t2 es1 (SetTable.grown es1.size)
    have hl3 := relayAll_led t2 es1 (SetTable.grown es1.size)
    generalize relayAll t2 es1 (SetTable.grown es1.size) = Z at pm hf3 hr3 hl3 ⊢
    obtain ⟨es2, t3, gave⟩ := Z
    dsimp only at pm hf3 hr3 hl3 ⊢
    have hsz : es2.size = es1.size := by rw [← Array.length_toList, pm.length_eq, Array.length_toList]
    have hb2 : es2.size < scanBound := by rw [hsz]; exact T.bd
    refine wpAny_bind (hg _ _ _ ?_)
    refine wpAny_bind (wpAny_storeSet_of ho1 rfl ?_ (fits_of_scanBound hb2))
    have ho2 := store_at (es' := es2) (t' := t3) ho1 rfl
    refine wpAny_pure (hR _ (sb1.trans (Heap.SameBut.update _ a _)) ?_)
    exact ⟨_, es2, _, t3, ho2, hex, rfl, ⟨fun e he => T.good e (pm.mem_iff.mp he), (pm.map vKey).nodup_iff.mpr T.nd, fun k => (T.mem k).trans (pm.map vKey).mem_iff.symm, hb2, hf3, hr3, T.led.imp id fun z => by rw [hl3]; exact z⟩, by rw [hsz]; exact hn⟩
  · exact wpAny_pure (hR _ sb1 ⟨_, es1, _, t2, ho1, hex, rfl, T, hn⟩)
theorem setM_add {k : Key} {v : Value} {Q : Bool → Shared → Prop} (R : SetM w s.heap a S n) (hkey : keyIs k v = true) (room : n + 1 < scanBound)
    (hQ : ∀ b h', Heap.SameBut a s.heap h' → SetM w h' a (fun j => S j ∨ j = k) (n + 1) → Q b { s with heap := h' }) :
    wpAny (model P w) A (setAddHashed a v ((mixKind P w).hash k)) Q E s := by
  obtain ⟨o, es, ep, t, ho, hex, hd, T, hn⟩ := R
  have hkey' : (mixKind P w).is k v = true := hkey
  have hsc : v.scannable = true := key_scan hkey
  have hel : ElemsOf (mixKind P w) es.toList := T.elems
  unfold setAddHashed setAddHashedIn
  refine wpAny_holding (wpAny_bind (wpAny_setState_of ho hd T.fits ?_))
  dsimp only
  rw [byScan_of hsc T.bd hel]
  simp only [↓reduceIte]
  unfold setAddByScan
  refine wpAny_bind ?_
  refine wpAny_bind (wpAny_rule ?_)
  refine wpAny_bind (wpAny_setScan_of hkey' ho hd T.fits hel ?_)
  have memS : S k ↔ ∃ e ∈ es.toList, (mixKind P w).is k e.2 = true := by
    rw [T.mem k, List.mem_map]
    constructor
    · rintro ⟨e, he, q⟩
      exact ⟨e, he, (vKey_is (T.good e he) k).mpr q⟩
    · rintro ⟨e, he, q⟩
      exact ⟨e, he, (vKey_is (T.good e he) k).mp q⟩
  cases hfi : List.findIdx? (fun e => (mixKind P w).is k e.2) es.toList with
  | some j =>
    dsimp only
    obtain ⟨hj, pj, _⟩ := List.findIdx?_eq_some_iff_getElem.mp hfi
    have hSk : S k := memS.mpr ⟨es.toList[j], List.getElem_mem hj, pj⟩
    refine wpAny_pure (wpAny_pure ?_)
    exact hQ false s.heap (Heap.SameBut.refl a s.heap) ⟨o, es, ep, t, ho, hex, hd, ⟨T.good, T.nd, fun i => ⟨fun z => (T.mem i).mp (z.elim id fun e => e ▸ hSk), fun z => .inl ((T.mem i).mpr z)⟩, T.bd, T.fits, T.ris, T.led⟩, Nat.le_succ_of_le hn⟩
  | none =>
    dsimp only
    have hnk : k ∉ es.toList.map vKey := fun z => by
      obtain ⟨e, he, q⟩ := memS.mp ((T.mem k).mpr z)
      have c := List.findIdx?_eq_none_iff.mp hfi e he
      rw [q] at c
      cases c
    have hgw : ∀ (b : Bool) {s₁ : Shared} {Q' : Unit → Shared → Prop}, Q' () s₁ → wpAny (model P w) A (match b with | true => rule "set.scan.the-table-gave-way" | false => pure ()) Q' E s₁ :=
      fun b s₁ Q' q => by cases b <;> first | exact wpAny_pure q | exact wpAny_rule q
    have pm := layNew_perm t es ((mixKind P w).hash k) v
    have hf1 := layNew_fits t es ((mixKind P w).hash k) v
    have hr1 := layNew_ris t es ((mixKind P w).hash k) v T.ris
    have hl1 := layNew_led t es ((mixKind P w).hash k) v
    generalize layNew t es ((mixKind P w).hash k) v = Z at pm hf1 hr1 hl1 ⊢
    obtain ⟨es1, t1, wasDummy, gave⟩ := Z
    dsimp only at pm hf1 hr1 hl1 ⊢
    rw [Array.toList_push] at pm
    have pc : es1.toList.Perm (((mixKind P w).hash k, v) :: es.toList) := pm.trans (List.perm_append_singleton _ _)
    have gk : GoodM w ((mixKind P w).hash k, v) := ⟨k, hkey, rfl⟩
    have ek : vKey ((mixKind P w).hash k, v) = k := (vKey_is gk k).mp hkey
    have pk : (es1.toList.map vKey).Perm (k :: es.toList.map vKey) := by
      have := pc.map vKey
      rw [List.map_cons, ek] at this
      exact this
    have hsz : es1.size = es.size + 1 := by rw [← Array.length_toList, pc.length_eq, List.length_cons, Array.length_toList]
    have T1 : ∀ t2 : SetTable, t2.fits es1.size = true → Ris t2.place.toList → t2.led = t1.led → TbM w es1 t2 fun j => S j ∨ j = k := fun t2 f r l => {
      good := fun e he => by
        rcases List.mem_cons.mp (pc.mem_iff.mp he) with z | z
        · rw [z]; exact gk
        · exact T.good e z
      nd := pk.nodup_iff.mpr (List.nodup_cons.mpr ⟨hnk, T.nd⟩)
      mem := fun i => by
        rw [T.mem i, pk.mem_iff, List.mem_cons]
        exact Or.comm
      bd := by omega
      fits := f
      ris := r
      led := T.led.imp id fun z => by rw [l, hl1]; exact z }
    have hn1 : es1.size ≤ n + 1 := by omega
    refine wpAny_bind (hgw _ ?_)
    split
    · refine wpAny_bind ?_
      rw [hashByValue_scannable 8 hsc]
      refine wpAny_pure ?_
      refine lay_tail ?_ ho hex hd (T1 _ ?_ ?_ ?_) hn1 ?_
      · intro b s₁ Q' q; cases b <;> first | exact wpAny_pure q | exact wpAny_rule q
      · first | (split <;> first | exact hf1 | exact SetTable.fits_plain_off hf1) | exact hf1
      · first | (split <;> exact hr1) | exact hr1
      · first | (split <;> rfl) | rfl
      · intro h' sb r; dsimp only; exact wpAny_pure (hQ _ _ sb r)
    · refine wpAny_bind (wpAny_pure ?_)
      simp only [↓reduceIte]
      refine lay_tail ?_ ho hex hd (T1 _ hf1 hr1 rfl) hn1 ?_
      · intro b s₁ Q' q; cases b <;> first | exact wpAny_pure q | exact wpAny_rule q
      · intro h' sb r; dsimp only; exact wpAny_pure (hQ _ _ sb r)
theorem setM_fresh {h : Heap} (ho : h.get? a = some { cls := .type "set", dict := none, data := .set #[] 0 (.fresh 0 0 (!w.params.followText "set-order")) }) : SetM w h a (fun _ => False) 0 :=
  ⟨_, #[], 0, _, ho, ⟨rfl, rfl, rfl⟩, rfl, ⟨fun e he => by simp at he, by simp, fun k => by simp, by decide, by rfl, List.Pairwise.nil, by
    show _ ∨ (!w.params.followText "set-order") = true
    cases w.params.followText "set-order"
    · exact .inr rfl
    · exact .inl rfl⟩, Nat.le_refl _⟩
theorem setM_update {I : Addr} {fp wr : List Addr} {G : Array GenState → Array GenState → Prop} {m : Nat} {Pv : Nat → Value → Prop} {St : Nat → Shared → Prop} {R : Result → Shared → Prop}
    (W : WalksS P w A.in1 I fp wr G m Pv St) (D : Addr) (hSf : D ∉ fp) (ks : List Key) (hn : m = ks.length) (hb : ks.length + 1 < scanBound) (hval : ∀ i v, Pv i v → ∃ k, ks[i]? = some k ∧ keyIs k v = true) :
    ∀ (k i : Nat) (s : Shared), m - i = k → i ≤ m → St i s → SetM w s.heap D (fun j => j ∈ ks.take i) i →
      (∀ s', Moved (D :: wr) G s s' → SetM w s'.heap D (fun j => j ∈ ks) m → R (.ok (.ret .none)) s') →
      codeAny (model P w) A (.builtin "set.update.loop" ⟨[.ref D, .ref I], []⟩) R s := by
  have hSw : D ∉ wr := fun h => hSf (W.sub _ h)
  have hsub : ∀ b ∈ wr, b ∈ D :: wr := fun b hb => List.mem_cons_of_mem _ hb
  intro k
  induction k with
  | zero =>
    intro i s hk' hi hst hS hR
    have hin : i = m := by omega
    subst hin
    refine codeAny_builtin F.entry_set_update_loop ?_
    rw [Around.under_plainId F.plain_set_update_loop _]
    show wpAny _ A.in1 (pyNext (.ref I) >>= _) _ _ s
    refine wpAny_bind (W.done s _ _ hst fun s' hm => ?_)
    show wpAny _ A.in1 (ret Value.none) _ _ s'
    have e : ks.take i = ks := List.take_of_length_le (by omega)
    rw [e] at hS
    exact wpAny_pure (hR s' (hm.mono hsub) (hS.at fun o e => hm.heap D o hSw e))
  | succ k ih =>
    intro i s hk' hi hst hS hR
    have hlt : i < m := by omega
    refine codeAny_builtin F.entry_set_update_loop ?_
    rw [Around.under_plainId F.plain_set_update_loop _]
    show wpAny _ A.in1 (pyNext (.ref I) >>= _) _ _ s
    refine wpAny_bind (W.item i s _ _ hlt hst fun v s' hP hst' hm => ?_)
    obtain ⟨z, hz, hk⟩ := hval i v hP
    have hS' : SetM w s'.heap D (fun j => j ∈ ks.take i) i := hS.at fun o e => hm.heap D o hSw e
    show wpAny _ A.in1 (holding [v] (setAdd D v) >>= _) _ _ s'
    refine wpAny_bind (wpAny_holding ?_)
    unfold setAdd
    refine wpAny_holding ?_
    refine wpAny_bind ((mixKind P w).pyHash (k := z) hk ?_)
    refine setM_add (s := { s' with toks := s'.toks + 1 }) hS' hk (by omega) fun b h' hsb hS2 => ?_
    have hS3 : SetM w h' D (fun j => j ∈ ks.take (i + 1)) (i + 1) := hS2.congr (fun j => by
      rw [List.take_add_one, hz]
      simp [List.mem_append]) (Nat.le_refl _)
    refine wpAny_pure ⟨plainId_quiet F.plain_set_update_loop _, ih (i + 1) _ (by omega) hlt (W.frame _ s' _ _ hst' (Nat.le_succ _) fun b hb o e => ?_) hS3 fun s'' hm'' hS'' => ?_⟩
    · rw [hsb.2 b (fun h : b = D => hSf (by rw [← h]; exact hb))]; exact e
    · refine hR s'' (Moved.trans W.gtrans ((hm.mono hsub).then_heap (Nat.le_succ _) fun b o hb e => ?_) hm'') hS''
      rw [hsb.2 b (fun h : b = D => hb (by rw [h]; exact List.mem_cons_self))]; exact e
/-- set(xs) -/
theorem call_setM {l : Addr} {items : Array Value} (ks : List Key) {Q : Value → Shared → Prop} (hh : A.handled = none) (hl : s.heap.IsList l items) (hsz : items.size = ks.length) (hit : ∀ (i : Nat) (v : Value), items[i]? = some v → ∃ k, ks[i]? = some k ∧ keyIs k v = true) (hb : ks.length + 1 < scanBound)
    (h : ∀ (h' : Heap) (tk : Nat), SetM w h' s.heap.objs.size (fun j => j ∈ ks) ks.length → (∀ b o, s.heap.get? b = some o → h'.get? b = some o) → Q (.ref s.heap.objs.size) { s with heap := h', toks := tk }) :
    wpAny (model P w) A (call (.type "set") [.ref l]) Q E s := by
  obtain ⟨c, tl, hmro⟩ := F.called_set.mro
  have hmade := F.called_set.made
  have hsub := F.called_set.sub
  refine wpAny_call (codeAny_of_tree ?_)
  show wpAny _ _ (callAny (.type "set") _) _ _ _
  refine wpAny_pure ⟨Code.quiet_builtin _ (by decide +kernel), codeAny_builtin F.entry_type_call ?_⟩
  rw [Around.under_plain (weight_type_call_type "set" [.ref l] []) rfl]
  have h1 := F.called_set.notType
  have h2 := F.called_set.canCreate
  have hct := F.typeCall_set_1 (.ref l)
  repeat (any_goals (first | assumption | wp_step))
  refine codeAny_mono (code_set_led1 (.ref l) (E := E) (Q₁ := fun obj s₁ => obj = .ref s.heap.objs.size ∧ s₁ = { s with heap := s.heap.push { cls := .type "set", dict := none, data := .set #[] 0 (.fresh 0 0 (!w.params.followText "set-order")) } }) ⟨rfl, rfl⟩) fun r s₁ hr => ?_
  cases r with
  | error e => exact hr
  | ok fl =>
    cases fl with
    | ret obj =>
      obtain ⟨rfl, rfl⟩ := hr
      have hS : (s.heap.push ({ cls := .type "set", dict := none, data := .set #[] 0 (.fresh 0 0 (!w.params.followText "set-order")) } : Obj)).get? s.heap.objs.size = some ({ cls := .type "set", dict := none, data := .set #[] 0 (.fresh 0 0 (!w.params.followText "set-order")) } : Obj) := Heap.get?_push_size _ rfl
      have hT : Shared.TypeIs { s with heap := s.heap.push ({ cls := .type "set", dict := none, data := .set #[] 0 (.fresh 0 0 (!w.params.followText "set-order")) } : Obj) } (.ref s.heap.objs.size) "set" := ⟨_, hS, rfl⟩
      have hli := F.called_set.init.lookup
      have hbi := F.called_set.init.bind (.ref s.heap.objs.size)
      repeat (any_goals (first | assumption | wp_step))
      refine codeAny_mono (codeAny_call_builtin (R := wants (fun r s₂ => r = .none ∧ ∃ h' tk, s₂ = { s with heap := h', toks := tk } ∧ SetM w h' s.heap.objs.size (fun j => j ∈ ks) ks.length ∧
          (∀ b o, s.heap.get? b = some o → h'.get? b = some o)) E) F.called_set.init.plain F.entry_set_init (check_set_init_1 hT ?_)) fun r₂ s₂ hr₂ => ?_
      · obtain ⟨ol, hol, hcl, nl, hdl⟩ := hl
        obtain ⟨ocls, odict, odata, oslots⟩ := ol
        simp only at hcl hdl
        subst hcl; subst hdl
        have hol' : (s.heap.push ({ cls := .type "set", dict := none, data := .set #[] 0 (.fresh 0 0 (!w.params.followText "set-order")) } : Obj)).get? l = some { cls := .type "list", dict := odict, data := .seq items nl, slots := oslots } := Heap.get?_push_of_some _ hol
        have hsls := F.sub_list_set
        have hslf := F.sub_list_frozenset
        have hne : (Value.type "list" == Value.type "dict") = false := by decide
        have hl1 : (s.heap.push ({ cls := .type "set", dict := none, data := .set #[] 0 (.fresh 0 0 (!w.params.followText "set-order")) } : Obj)).IsList l items := ⟨_, hol', rfl, nl, rfl⟩
        unfold Builtin.«set.__init__» noKeywords Builtin.Frozenset.updateFrom
        generalize hPI : pyIter = PI
        wp_walk
        subst hPI
        refine wpAny_pyIter_list hl1 ?_
        refine wpAny_bind (wpAny_runValue ?_)
        have hlS : l < s.heap.objs.size := Heap.lt_size hol
        have hh3 : A.in1.in1.in1.handled = none := by simp [hh]
        have hneI : l ≠ (s.heap.push ({ cls := .type "set", dict := none, data := .set #[] 0 (.fresh 0 0 (!w.params.followText "set-order")) } : Obj)).objs.size := by
          rw [Heap.size_push]; exact Nat.ne_of_lt (Nat.lt_succ_of_lt hlS)
        have hSf : s.heap.objs.size ∉ [(s.heap.push ({ cls := .type "set", dict := none, data := .set #[] 0 (.fresh 0 0 (!w.params.followText "set-order")) } : Obj)).objs.size, l] := by
          rw [Heap.size_push]; simp only [List.mem_cons, List.mem_singleton, List.not_mem_nil, or_false, not_or]
          exact ⟨Nat.ne_of_lt (Nat.lt_succ_self _), Nat.ne_of_gt hlS⟩
        refine setM_update ((Walks.list hh3 _ l hneI items).toS) s.heap.objs.size
          hSf ks hsz hb hit (items.size - 0) 0 _ (by omega) (Nat.zero_le _)
          ⟨⟨_, Heap.get?_push_size _ rfl, rfl, rfl⟩, (hl1.push _)⟩ ?hS0 ?hR
        case hS0 =>
          have hget : ((s.heap.push ({ cls := .type "set", dict := none, data := .set #[] 0 (.fresh 0 0 (!w.params.followText "set-order")) } : Obj)).push { cls := .type "list_iterator", data := .fields #[.ref l, .int 0 0] }).get? s.heap.objs.size = some ({ cls := .type "set", dict := none, data := .set #[] 0 (.fresh 0 0 (!w.params.followText "set-order")) } : Obj) := Heap.get?_push_of_some _ hS
          exact (setM_fresh hget).congr (fun _ => by simp) (Nat.le_refl _)
        case hR =>
          intro s' hm hS'
          obtain ⟨h', g2, d', tk', os'⟩ := s'
          have eg : g2 = s.gens := hm.gens
          have ed : d' = s.drawn := hm.drawn
          have eo : os' = s.os := hm.os
          subst eg; subst ed; subst eo
          show wpAny _ _ _ _ _ _
          refine wpAny_pure ?_
          show wpAny _ _ (ret Value.none) _ _ _
          rw [hsz] at hS'
          refine wpAny_pure ⟨rfl, h', tk', rfl, hS', fun b o e => ?_⟩
          have hb0 : b < s.heap.objs.size := Heap.lt_size e
          have hb1 : b ≠ s.heap.objs.size := Nat.ne_of_lt hb0
          have hb2 : b ≠ (s.heap.push ({ cls := .type "set", dict := none, data := .set #[] 0 (.fresh 0 0 (!w.params.followText "set-order")) } : Obj)).objs.size := by
            rw [Heap.size_push]; exact Nat.ne_of_lt (Nat.lt_succ_of_lt hb0)
          exact hm.heap b o (by simp only [List.mem_cons, List.mem_singleton, List.not_mem_nil, or_false, not_or]; exact ⟨hb1, hb2⟩) (Heap.get?_push_of_some _ (Heap.get?_push_of_some _ e))
      · cases r₂ with
        | error e => exact hr₂
        | ok fl₂ =>
          cases fl₂ with
          | ret r =>
            obtain ⟨rfl, h', tk, rfl, hS', hk'⟩ := hr₂
            repeat (any_goals (first | assumption | wp_step))
            exact h _ _ hS' hk'
          | _ => exact hr₂.elim
    | _ => exact hr.elim
end
end Dl

namespace Dl
open PySem L2 PyProof.Rows PySem.Spec

/-! ## sorted(set(xs)), len(set(xs)): xs whole numbers and texts -/
def kD : Key → D
  | .inl i => .int i
  | .inr x => .str x
theorem kD_inj {a b : Key} (h : kD a = kD b) : a = b := by
  cases a <;> cases b <;> simp [kD] at h <;> simp [h]
theorem Srt.sub {xs ys : List D} (S : Srt xs) (h : ∀ d ∈ ys, d ∈ xs) : Srt ys where
  kind := by
    rcases S.kind with k | k | k | k | k
    · exact .inl fun d hd => k d (h d hd)
    · exact .inr (.inl fun d hd => k d (h d hd))
    · exact .inr (.inr (.inl fun d hd => k d (h d hd)))
    · exact .inr (.inr (.inr (.inl fun d hd => k d (h d hd))))
    · exact .inr (.inr (.inr (.inr fun d hd => k d (h d hd))))
  plain := fun d hd => S.plain d (h d hd)
  cmp := fun d hd c hc => S.cmp d (h d hd) c (h c hc)
/-- the items, each as one of the keys -/
theorem keys_items {K : PySem.W.Frag} {ρ : List Addr} {H : Hp} : ∀ {ks : List Key} {vs : List V} {us : List Value}, VRs K ρ H (ks.map kD) vs → Vals vs us → us.length = ks.length ∧ ∀ (i : Nat) (u : Value), us[i]? = some u → ∃ k, ks[i]? = some k ∧ keyIs k u = true
  | [], vs, us, h, r => by
    rw [List.map_nil] at h
    unfold VRs at h
    subst h
    cases r
    exact ⟨rfl, fun i u e => by simp at e⟩
  | k :: ks, vs, us, h, r => by
    rw [List.map_cons] at h
    unfold VRs at h
    obtain ⟨v, vr, rfl, g1, g2⟩ := h
    cases r with
    | cons r1 r2 =>
    rename_i u ur
    obtain ⟨h1, h2⟩ := keys_items g2 r2
    refine ⟨by simp [h1], fun i w e => ?_⟩
    cases i with
    | zero =>
      simp at e
      subst e
      refine ⟨k, rfl, ?_⟩
      cases k with
      | inl n =>
        have e1 : v = V.int n := g1
        subst e1
        obtain ⟨t, e2⟩ := (show ∃ t, u = Value.int n t from r1)
        rw [e2]; exact keyIs_int _ _
      | inr x =>
        have e1 : v = V.str x := g1
        subst e1
        obtain ⟨t, e2⟩ := (show ∃ t, u = Value.str x t from r1)
        rw [e2]; exact keyIs_str _ _
    | succ i => exact h2 i w (by simpa using e)
theorem key_plV {h : Heap} {k : Key} {u : Value} (e : keyIs k u = true) : PlV h (kD k) u := by
  rcases keyIs_shape e with ⟨i, t, rfl, rfl⟩ | ⟨x, t, rfl, rfl⟩
  · exact .int
  · exact .str
/-- scalars, as values of the store -/
theorem keys_vrs {K : PySem.W.Frag} {ρ : List Addr} {H : Hp} {h : Heap} : ∀ {us : List Value}, (∀ u ∈ us, ∃ k, keyIs k u = true) → ∃ vs, VRs K ρ H (us.map (rdV h)) vs ∧ Vals vs us
  | [], _ => ⟨[], .nil, .nil⟩
  | u :: us, e => by
    obtain ⟨vs, h1, h2⟩ := keys_vrs (K := K) (ρ := ρ) (H := H) (h := h) (us := us) fun w hw => e w (List.mem_cons_of_mem _ hw)
    obtain ⟨k, hk⟩ := e u List.mem_cons_self
    have er := rdV_eq (key_plV (h := h) hk)
    rcases keyIs_shape hk with ⟨i, t, rfl, rfl⟩ | ⟨x, t, rfl, rfl⟩
    · refine ⟨V.int i :: vs, ?_, .cons ⟨t, rfl⟩ h2⟩
      rw [List.map_cons, er]
      exact .cons (show VR K ρ H (.int i) (V.int i) from rfl) h1
    · refine ⟨V.str x :: vs, ?_, .cons ⟨t, rfl⟩ h2⟩
      rw [List.map_cons, er]
      exact .cons (show VR K ρ H (.str x) (V.str x) from rfl) h1
def wSetSort (we : WE) : WE := fun τ S R => we τ S fun d S1 => ∃ (ks : List Key) (p : List D × (Sto → Prop)), lstD S1 d = some p ∧ p.1 = ks.map kD ∧ ks.length ≤ 4000 ∧ Srt (ks.map kD) ∧ ∀ ys, ys.Pairwise (fun a b => ltT a b = true) → (∀ x, x ∈ ys ↔ x ∈ ks.map kD) → R (.loc S1.length) (S1 ++ [.lst ys])
def wSetLen (we : WE) : WE := fun τ S R => we τ S fun d S1 => ∃ (ks : List Key) (p : List D × (Sto → Prop)), lstD S1 d = some p ∧ p.1 = ks.map kD ∧ ks.length ≤ 4000 ∧ ∀ zs : List Key, zs.Nodup → (∀ k, k ∈ zs ↔ k ∈ ks) → R (.int (zs.length : Nat)) S1
section
variable {X : Cx} {a : Expr} {we : WE} {p p2 q pos : Pos}
theorem set_made {pins : List (Addr × Obj)} {σ : L2.St} {H : Hp} {s : Shared} {ρ : List Addr} {S : Sto} {A : Around} {E : Value → Shared → Prop} {d : D} {v : V} {u : Value} {ks : List Key} {pr : List D × (Sto → Prop)} {Q : Value → Shared → Prop}
    (hh : A.handled = none) (I : L2.Inv X pins σ H s) (W : XW X ρ S H) (r : VR X.K ρ H d v) (ru : RelV v u) (e : lstD S d = some pr) (ek : pr.1 = ks.map kD) (hl : ks.length ≤ 4000)
    (h : ∀ h' tk o es ep t, (∀ b o, s.heap.get? b = some o → h'.get? b = some o) → h'.get? s.heap.objs.size = some o → o.ExactSet → o.data = .set es ep t → TbM X.w es t (fun j => j ∈ ks) → es.size ≤ ks.length → Q (.ref s.heap.objs.size) { s with heap := h', toks := tk }) :
    wpAny (model X.prog X.w) A (call (.type "set") [u]) Q E s := by
  obtain ⟨l, vs, rfl, hq, hv, _⟩ := lstD_ok W r e
  cases (show u = Value.ref l from ru)
  obtain ⟨its, rv, pl, hz⟩ := I.list hq
  rw [ek] at hv
  obtain ⟨k1, k2⟩ := keys_items hv rv
  refine call_setM ks hh (show s.heap.IsList l its.toArray from pl.isList) (by simpa using k1) (fun i w e => k2 i w (by simpa using e)) (by unfold scanBound; omega) fun h' tk M hk => ?_
  obtain ⟨o, es, ep, t, ho, hex, hd, T, hn⟩ := M
  exact h h' tk o es ep t hk ho hex hd T hn
theorem de_setLen (hc : X.calm = true) (hg : Gl X "len") (hm : X.mg "len" = none) (hg2 : Gl X "set") (hm2 : X.mg "set" = none) (ha : PE X a (dE X we))
    (na : starEach [a] X.env = (false, eval a X.env) :: starEach [] X.env := by rfl) : PE X (.Call (.Name "len" p) [.Call (.Name "set" p2) [a] [] q] [] pos) (dE X (wSetLen we)) := by
  refine ⟨fun pins s σ H Q I ⟨ρ, τ, S, R, W, er, h, pe⟩ => ?_⟩
  refine Call_ (ld_blt I hg hm boot_len ?_)
  refine PyProof.Rows.callWith_builtin1 (PyProof.Rows.args_cons ?_ rfl) rfl rfl
  refine Call_ (ld_blt I hg2 hm2 boot_set ?_)
  refine PyProof.Rows.callWith_type1 (PyProof.Rows.args_cons (thn (ha.run pins s σ H (fun x H1 => ∃ (ρ1 : List Addr) (S1 : Sto) (d : D) (ks : List Key) (pr : List D × (Sto → Prop)), Ext ρ H ρ1 H1 ∧ XW X ρ1 S1 H1 ∧ VR X.K ρ1 H1 d x ∧ lstD S1 d = some pr ∧ pr.1 = ks.map kD ∧ ks.length ≤ 4000 ∧ ∀ zs : List Key, zs.Nodup → (∀ k, k ∈ zs ↔ k ∈ ks) → R (.int (zs.length : Nat)) S1) I
    ⟨ρ, τ, S, _, W, er, h, fun d S1 ⟨ks, pr, e1, e2, e3, e4⟩ ρ1 H1 x y W1 r => ⟨ρ1, S1, d, ks, pr, y, W1, r, e1, e2, e3, e4⟩⟩) fun v s1 ⟨x, H1, I1, r1, q1⟩ => PyProof.Rows.args_nil ?_) na) na rfl
  obtain ⟨ρ1, S1, d, ks, pr, y, W1, r, e1, e2, e3, e4⟩ := q1
  refine set_made (I1.ok.hd hc) I1 W1 r r1 e1 e2 e3 fun h' tk o es ep t hk ho hex hd T hn => ?_
  refine PyProof.Rows.args_nil ?_
  have I2 : L2.Inv X pins σ H1 { s1 with heap := h', toks := tk } := I1.kept hk
  refine call_len_set ho hex hd T.fits (by have := T.bd; unfold scanBound at this; omega) ⟨.int es.size, H1, I2.tok _, ⟨_, rfl⟩, ?_⟩
  have := e4 (es.toList.map vKey) T.nd fun k => (T.mem k).symm
  rw [List.length_map, Array.length_toList] at this
  exact pe _ _ this ρ1 H1 _ y W1 (show VR X.K ρ1 H1 (.int es.size) (V.int es.size) from rfl)
theorem de_setSort (hc : X.calm = true) (hu : X.A.units + 150 < cLine) (hg : Gl X "sorted") (hm : X.mg "sorted" = none) (hg2 : Gl X "set") (hm2 : X.mg "set" = none) (ha : PE X a (dE X we))
    (na : starEach [a] X.env = (false, eval a X.env) :: starEach [] X.env := by rfl) : PE X (.Call (.Name "sorted" p) [.Call (.Name "set" p2) [a] [] q] [] pos) (dE X (wSetSort we)) := by
  refine ⟨fun pins s σ H Q I ⟨ρ, τ, S, R, W, er, h, pe⟩ => ?_⟩
  refine Call_ (ld_blt I hg hm boot_sorted ?_)
  refine PyProof.Rows.callWith_builtin1 (PyProof.Rows.args_cons ?_ rfl) rfl rfl
  refine Call_ (ld_blt I hg2 hm2 boot_set ?_)
  refine PyProof.Rows.callWith_type1 (PyProof.Rows.args_cons (thn (ha.run pins s σ H (fun x H1 => ∃ (ρ1 : List Addr) (S1 : Sto) (d : D) (ks : List Key) (pr : List D × (Sto → Prop)), Ext ρ H ρ1 H1 ∧ XW X ρ1 S1 H1 ∧ VR X.K ρ1 H1 d x ∧ lstD S1 d = some pr ∧ pr.1 = ks.map kD ∧ ks.length ≤ 4000 ∧ Srt (ks.map kD) ∧ ∀ ys, ys.Pairwise (fun a b => ltT a b = true) → (∀ x, x ∈ ys ↔ x ∈ ks.map kD) → R (.loc S1.length) (S1 ++ [.lst ys])) I
    ⟨ρ, τ, S, _, W, er, h, fun d S1 ⟨ks, pr, e1, e2, e3, e4⟩ ρ1 H1 x y W1 r => ⟨ρ1, S1, d, ks, pr, y, W1, r, e1, e2, e3, e4⟩⟩) fun v s1 ⟨x, H1, I1, r1, q1⟩ => PyProof.Rows.args_nil ?_) na) na rfl
  obtain ⟨ρ1, S1, d, ks, pr, y, W1, r, e1, e2, e3, hS, e4⟩ := q1
  refine set_made (I1.ok.hd hc) I1 W1 r r1 e1 e2 e3 fun h' tk o es ep t hk ho hex hd T hn => ?_
  refine PyProof.Rows.args_nil ?_
  have I2 : L2.Inv X pins σ H1 { s1 with heap := h', toks := tk } := I1.kept hk
  refine Calls.call_function_entry kind_sorted plain_sorted entry_sorted (args_sorted1 _) ?_
  unfold Builtin.«sorted»
  refine wpAny_bind (m := checkCount "sorted" 1 1 _) (wpAny_pure ?_)
  refine wpAny_bind (collect_set (s := { s1 with heap := h', toks := tk }) (A := X.A.in1) (I1.ok.hd hc) ⟨o, ho, hex.1, hd⟩ T.fits T.bd T.ris T.led fun s2 ws k1 hz g1 o1 pm => ?_)
  have I3 : L2.Inv X pins σ H1 s2 := I2.call' (ch := []) o1 (Un.kept k1) (I2.hok.kept k1) (by rw [g1]; exact I2.bare) (fun _ z => nomatch z)
  have hlen : ws.length = es.size := by rw [pm.length_eq, List.length_map, Array.length_toList]
  have hwz : ws.length ≤ sizeLine := by have := sizeLine_eq; omega
  refine wpAny_bind (wpAny_newList ?_ hwz)
  have hoL : (s2.heap.push (seqObj "list" ws.toArray 0)).get? s2.heap.objs.size = some (seqObj "list" ws.toArray 0) := Heap.get?_push_size _ rfl
  have hkey : ∀ u ∈ ws, ∃ k, keyIs k u = true ∧ k ∈ ks := fun u hu => by
    obtain ⟨e, he, rfl⟩ := List.mem_map.mp (pm.mem_iff.mp hu)
    have g := T.good e he
    refine ⟨vKey e, (vKey_is g _).mpr rfl, (T.mem _).mpr (List.mem_map_of_mem he)⟩
  generalize hh2 : s2.heap.push (seqObj "list" ws.toArray 0) = h2 at hoL ⊢
  have rdk : ∀ {u : Value} {k : Key}, keyIs k u = true → rdV h2 u = kD k := fun e => rdV_eq (key_plV e)
  have hS2 : Srt (ws.map (rdV h2)) := hS.sub fun d hd => by
    obtain ⟨u, hu, rfl⟩ := List.mem_map.mp hd
    obtain ⟨k, hk1, hk2⟩ := hkey u hu
    rw [rdk hk1]
    exact List.mem_map_of_mem hk2
  have I4 : L2.Inv X pins σ H1 { s2 with heap := h2 } := I3.kept (fun b o e => by rw [← hh2]; exact Heap.get?_push_of_some _ e)
  show wpAny _ _ _ _ _ { s2 with heap := h2 }
  refine wpAny_bind (wpAny_holding (wpAny_call_entry slot_list_sort ⟨_, hoL, rfl⟩ entry_list_sort (SrtO.list_sort_ord (s := { s2 with heap := h2 }) (swo_D (rdV_pure h2)) hoL hwz (fun h2' h3 keep => ?_) fun out hs hb => ⟨_, rfl, ?_⟩) (args_list_sort _)))
  · exact srt_cmp (s := { s2 with heap := h3 }) hS2 (fun u hm => by
      obtain ⟨k, hk1, _⟩ := hkey u hm
      rw [rdk hk1]
      exact key_plV hk1) (by show X.A.units + 1 + 1 + 100 < cLine; omega) h2'
  · obtain ⟨vs', q1, q2⟩ := keys_vrs (K := X.K) (ρ := ρ1) (H := H1) (h := h2) (us := out) fun u hu => let ⟨k, hk1, _⟩ := hkey u (hb.perm.mem_iff.mp hu); ⟨k, hk1⟩
    obtain ⟨e', he'⟩ := sortedHeap_at (vs := ws) (out := out.toArray) hoL
    have hlen2 : vs'.length ≤ sizeLine := by rw [q2.length, hb.perm.length_eq]; exact hwz
    have hn2 := I3.hok.fresh (Nat.le_refl s2.heap.objs.size)
    refine wpAny_pure ⟨_, rfl, .ref s2.heap.objs.size, upd H1 s2.heap.objs.size (.lst vs'), I3.laid (t' := s2.toks) (fun b u e => ?_) (Nat.le_refl _) ⟨hlen2, out, e', q2, he'⟩, rfl, ?_⟩
    · have hb : b < s2.heap.objs.size := Heap.lt_size e
      rw [sortedHeap_old (Nat.ne_of_lt hb) (by rw [← hh2, size_push']; exact Nat.lt_succ_of_lt hb), ← hh2]
      exact Heap.get?_push_of_some _ e
    · have keysOut : out.Perm (es.toList.map (·.2)) := hb.perm.trans pm
      have mem : ∀ x, x ∈ out.map (rdV h2) ↔ x ∈ ks.map kD := fun x => by
        constructor
        · intro hx
          obtain ⟨u, hu, rfl⟩ := List.mem_map.mp hx
          obtain ⟨k, hk1, hk2⟩ := hkey u (hb.perm.mem_iff.mp hu)
          rw [rdk hk1]
          exact List.mem_map_of_mem hk2
        · intro hx
          obtain ⟨k, hk, rfl⟩ := List.mem_map.mp hx
          obtain ⟨e, he, ee⟩ := List.mem_map.mp ((T.mem k).mp hk)
          have g := (vKey_is (T.good e he) k).mpr ee
          rw [← rdk g]
          exact List.mem_map_of_mem (keysOut.mem_iff.mpr (List.mem_map_of_mem he))
      have nd : (out.map (rdV h2)).Nodup := by
        have e1 : (es.toList.map (·.2)).map (rdV h2) = (es.toList.map vKey).map kD := by
          rw [List.map_map, List.map_map]
          exact List.map_congr_left fun e he => rdk ((vKey_is (T.good e he) _).mpr rfl)
        rw [(keysOut.map (rdV h2)).nodup_iff, e1]
        exact List.pairwise_map.mpr (List.Pairwise.imp (fun h e => h (kD_inj e)) T.nd)
      refine new_lst W1 q1 (e4 _ ?_ mem) (pe.ext W1 y) hn2
      have pw : (out.map (rdV h2)).Pairwise fun a b => ltT b a = false := List.pairwise_map.mpr (hs.imp fun h => h)
      refine (pw.and nd).imp_of_mem fun {a b} ha hb' ⟨g1, g2⟩ => ?_
      obtain ⟨u, hu, rfl⟩ := List.mem_map.mp ha
      obtain ⟨w, hw, rfl⟩ := List.mem_map.mp hb'
      cases g : ltT (rdV h2 u) (rdV h2 w) with
      | true => rfl
      | false => exact absurd (ltT_tri (rdV_pure h2 u) (rdV_pure h2 w) g g1) g2
end
section
variable {τ : DEnv} {S : Sto} {R : DQ} {we : WE}
@[simp ↓] theorem wSetSort_ap : wSetSort we τ S R = we τ S fun d S1 => ∃ (ks : List Key) (p : List D × (Sto → Prop)), lstD S1 d = some p ∧ p.1 = ks.map kD ∧ ks.length ≤ 4000 ∧ Srt (ks.map kD) ∧ ∀ ys, ys.Pairwise (fun a b => ltT a b = true) → (∀ x, x ∈ ys ↔ x ∈ ks.map kD) → R (.loc S1.length) (S1 ++ [.lst ys]) := rfl
@[simp ↓] theorem wSetLen_ap : wSetLen we τ S R = we τ S fun d S1 => ∃ (ks : List Key) (p : List D × (Sto → Prop)), lstD S1 d = some p ∧ p.1 = ks.map kD ∧ ks.length ≤ 4000 ∧ ∀ zs : List Key, zs.Nodup → (∀ k, k ∈ zs ↔ k ∈ ks) → R (.int (zs.length : Nat)) S1 := rfl
end
end Dl

namespace Dl
open PySem L2 PyProof.Rows PySem.Spec

/-! ## dict(zip(xs, ys)): xs texts -/
/-- pairs, put one by one -/
noncomputable def zipP (acc : List (D × D)) (l : List (Str × D)) : List (D × D) := l.foldl (fun acc p => putP acc (.str p.1) p.2) acc
section
variable {X : Cx} {pins : List (Addr × Obj)} {σ : L2.St} {H : Hp} {s : Shared} {ρ : List Addr} {S : Sto}
theorem tx_get : ∀ {kvs : List (D × D)} {qs : List (Str × Value)} {x : Str}, Paired (TxE X ρ H) kvs qs → (getP kvs (.str x)).isSome = qs.any fun q => decide (q.1 = x)
  | _, _, x, .nil => by simp [getP]
  | p :: kvs, q :: qs, x, .cons r t => by
    have ih := tx_get (x := x) t
    unfold getP at ih ⊢
    rw [List.find?_cons, List.any_cons]
    have e : (p.1 = D.str x) ↔ q.1 = x := by rw [r.1]; simp
    by_cases h : q.1 = x
    · simp [e.mpr h, h]
    · have h2 : ¬ p.1 = D.str x := fun z => h (e.mp z)
      simp only [h, h2, decide_false, Bool.false_or]
      exact ih
theorem tx_map {x : Str} {d : D} {v : Value} {dv : V} (h1 : VR X.K ρ H d dv) (h2 : RelV dv v) : ∀ {kvs : List (D × D)} {qs : List (Str × Value)}, Paired (TxE X ρ H) kvs qs → Paired (TxE X ρ H) (kvs.map fun p => if p.1 = D.str x then (p.1, d) else p) (qs.map fun q => if q.1 = x then (q.1, v) else q)
  | _, _, .nil => .nil
  | p :: kvs, q :: qs, .cons r t => by
    have ih := tx_map (x := x) h1 h2 t
    rw [List.map_cons, List.map_cons]
    refine .cons ?_ ih
    have e : (p.1 = D.str x) ↔ q.1 = x := by rw [r.1]; simp
    by_cases h : q.1 = x
    · rw [if_pos (e.mpr h), if_pos h]
      exact ⟨r.1, dv, h1, h2⟩
    · rw [if_neg (fun z => h (e.mp z)), if_neg h]
      exact r
theorem paired_app {α β : Type} {F : α → β → Prop} {a : α} {b : β} (h : F a b) : ∀ {as : List α} {bs : List β}, Paired F as bs → Paired F (as ++ [a]) (bs ++ [b])
  | _, _, .nil => .cons h .nil
  | _, _, .cons r t => .cons r (paired_app h t)
theorem tx_put {x : Str} {d : D} {v : Value} {dv : V} {kvs : List (D × D)} {qs : List (Str × Value)} (t : Paired (TxE X ρ H) kvs qs) (h1 : VR X.K ρ H d dv) (h2 : RelV dv v) : Paired (TxE X ρ H) (putP kvs (.str x) d) (PySem.stored qs x v) := by
  unfold putP PySem.stored
  rw [tx_get t]
  by_cases c : (qs.any fun q => decide (q.1 = x)) = true
  · rw [if_pos c, if_pos c]
    exact tx_map h1 h2 t
  · rw [if_neg c, if_neg c]
    exact paired_app ⟨rfl, dv, h1, h2⟩ t
/-- the machine's pairs -/
theorem tx_zip : ∀ {ws : List Str} {ds : List D} {vs : List V} {us : List Value} {kvs : List (D × D)} {qs : List (Str × Value)}, Paired (TxE X ρ H) kvs qs → VRs X.K ρ H ds vs → Vals vs us → Paired (TxE X ρ H) (zipP kvs (ws.zip ds)) (PySem.merged qs (ws.zip us))
  | [], ds, vs, us, kvs, qs, t, _, _ => by simpa [zipP, PySem.merged] using t
  | w :: ws, [], vs, us, kvs, qs, t, h, r => by
    unfold VRs at h
    subst h
    cases r
    simpa [zipP, PySem.merged] using t
  | w :: ws, d :: ds, vs, us, kvs, qs, t, h, r => by
    unfold VRs at h
    obtain ⟨v, vr, rfl, g1, g2⟩ := h
    cases r with
    | cons r1 r2 =>
      have := tx_zip (ws := ws) (tx_put (x := w) t g1 r1) g2 r2
      simpa [zipP, PySem.merged] using this
theorem merged_len {K : Type} [DecidableEq K] : ∀ (l acc : List (K × Value)), (PySem.merged acc l).length ≤ acc.length + l.length
  | [], acc => by simp [PySem.merged]
  | p :: l, acc => by
    have := merged_len l (PySem.stored acc p.1 p.2)
    have h2 : (PySem.stored acc p.1 p.2).length ≤ acc.length + 1 := by unfold PySem.stored; split <;> simp
    unfold PySem.merged at this ⊢
    simp only [List.foldl_cons, List.length_cons] at this ⊢
    omega
end
def wDictZip (wr : WA) : WE := fun τ S R => wr τ S fun ds S1 => ∃ (d1 d2 : D) (ws : List Str) (p1 p2 : List D × (Sto → Prop)), ds = [d1, d2] ∧ lstD S1 d1 = some p1 ∧ p1.1 = ws.map D.str ∧ lstD S1 d2 = some p2 ∧ ∀ ep, R (.loc S1.length) (S1 ++ [.dct ep (zipP [] (ws.zip p2.1))])
section
variable {X : Cx} {e e2 : Expr} {wr : WA} {p p2 q pos : Pos}
theorem de_dictZip (hc : X.calm = true) (hg : Gl X "dict") (hm : X.mg "dict" = none) (hg2 : Gl X "zip") (hm2 : X.mg "zip" = none) (ha : PA X [e, e2] (dA X wr))
    (hs : starEach [e, e2] X.env = (false, eval e X.env) :: starEach [e2] X.env := by rfl) (hpl : (backTo q (starEach [e2] X.env)).any (·.1) = false := by rfl) :
    PE X (.Call (.Name "dict" p) [.Call (.Name "zip" p2) [e, e2] [] q] [] pos) (dE X (wDictZip wr)) := by
  refine ⟨fun pins s σ H Q I ⟨ρ, τ, S, R, W, er, h, pe⟩ => ?_⟩
  refine Call_ (ld_blt I hg hm PyProof.Rows.boot_dict ?_)
  refine PyProof.Rows.callWith_type1 (PyProof.Rows.args_cons ?_ rfl) rfl rfl
  refine Call_ (ld_blt I hg2 hm2 PyProof.Rows.boot_zip (PyProof.Rows.callWith_type1 (thn (ha.run q pins s σ H (fun xs H1 => ∃ (ρ1 : List Addr) (S1 : Sto) (d1 d2 : D) (ws : List Str) (p1 p2 : List D × (Sto → Prop)), Ext ρ H ρ1 H1 ∧ XW X ρ1 S1 H1 ∧ VRs X.K ρ1 H1 [d1, d2] xs ∧ lstD S1 d1 = some p1 ∧ p1.1 = ws.map D.str ∧ lstD S1 d2 = some p2 ∧ ∀ ep, R (.loc S1.length) (S1 ++ [.dct ep (zipP [] (ws.zip p2.1))])) I
    ⟨ρ, τ, S, _, W, er, h, fun ds S1 ⟨d1, d2, ws, p1, p2, e0, e1, e2, e3, e4⟩ ρ1 H1 xs y W1 r => ⟨ρ1, S1, d1, d2, ws, p1, p2, y, W1, e0 ▸ r, e1, e2, e3, e4⟩⟩) fun us s1 ⟨xs, H1, I1, r1, q1⟩ => ?_) hs hpl))
  obtain ⟨ρ1, S1, d1, d2, ws, pr1, pr2, y, W1, r, e1, e2, e3, e4⟩ := q1
  obtain ⟨x1, x2, rfl, rv1, rv2⟩ := r.two_of
  obtain ⟨u1, u2, rfl, ru1, ru2⟩ := vals2 r1
  obtain ⟨a, vs1, rfl, hq1, hv1, _⟩ := lstD_ok W1 rv1 e1
  obtain ⟨b, vs2, rfl, hq2, hv2, _⟩ := lstD_ok W1 rv2 e3
  cases (show u1 = Value.ref a from ru1)
  cases (show u2 = Value.ref b from ru2)
  obtain ⟨its, rx, p1, hz1⟩ := I1.list hq1
  obtain ⟨its2, ry, p2, hz2⟩ := I1.list hq2
  have la : a < s1.heap.objs.size := p1.lt
  have lb : b < s1.heap.objs.size := p2.lt
  refine call_zip_2 p1.isList p2.isList fun h' hz hTI hTO h1 h2 hsz hk => ?_
  refine PyProof.Rows.args_nil ?_
  rw [e2] at hv1
  -- the texts
  have keys : ∀ {ws : List Str} {vs : List V} {us : List Value}, VRs X.K ρ1 H1 (ws.map D.str) vs → Vals vs us → us.length = ws.length ∧ ∀ (i : Nat) (u : Value), us[i]? = some u → ∃ w, ws[i]? = some w ∧ (strKind X.prog X.w).is w u = true := by
    intro ws
    induction ws with
    | nil =>
      intro vs us h r
      rw [List.map_nil] at h
      unfold VRs at h
      subst h
      cases r
      exact ⟨rfl, fun i u e => by simp at e⟩
    | cons w ws ih =>
      intro vs us h r
      rw [List.map_cons] at h
      unfold VRs at h
      obtain ⟨v, vr, rfl, g1, g2⟩ := h
      cases r with
      | cons r1 r2 =>
      rename_i u ur
      obtain ⟨h1, h2⟩ := ih g2 r2
      refine ⟨by simp [h1], fun i z e => ?_⟩
      cases i with
      | zero =>
        simp at e
        subst e
        have e1 : v = V.str w := g1
        subst e1
        obtain ⟨t, e2⟩ := (show ∃ t, u = Value.str w t from r1)
        refine ⟨w, rfl, ?_⟩
        rw [e2]
        show Value.isStrOf w (Value.str w t) = true
        simp [Value.isStrOf]
      | succ i => exact h2 i z (by simpa using e)
  obtain ⟨k1, k2⟩ := keys hv1 rx
  have hlen : (ws.zip its2).length = min its.toArray.size its2.toArray.size := by simp [k1]
  refine call_dict_pairs (knd := strKind X.prog X.w) (kvs := ws.zip its2) (PairArg.zip _ _ _ _ _ _ _ (PySem.W.ktu_apart s1.heap.objs.size a b la lb) its.toArray its2.toArray) (I1.ok.hd hc)
    ⟨hz, hTI, ⟨_, _, hTO⟩, h1, h2, p1.isList.at fun o e => hk _ o e, p2.isList.at fun o e => hk _ o e⟩ ⟨hlen, fun i key v ⟨g1, g2⟩ => ?_⟩ ?_ fun h'' tk hd hkk => ?_
  · obtain ⟨w, hw, hi⟩ := k2 i key (by simpa using g1)
    refine ⟨w, ?_, hi⟩
    rw [List.getElem?_zip_eq_some]
    exact ⟨hw, by simpa using g2⟩
  · have : its2.toArray.size ≤ sizeLine := by have := ry.length; simp; omega
    omega
  obtain ⟨o, es, ep', ho, hx, hdat, hks, hpr, hnd⟩ := hd
  have hob : DictObj h'.objs.size es ep' h'' := ⟨o, ho, hx, hdat⟩
  have keep : ∀ b o, s1.heap.get? b = some o → h''.get? b = some o := fun b o e => hkk b o (by
    have := Heap.lt_size e
    simp only [List.mem_cons, List.not_mem_nil, or_false, not_or]
    refine ⟨?_, ?_, ?_, ?_⟩ <;> exact (by intro z; rw [z] at this; exact absurd this (by first | exact Nat.lt_irrefl _ | (refine Nat.not_lt.mpr (Nat.le_add_right _ _))))) (hk b o e)
  have hsz' : s1.heap.objs.size ≤ h'.objs.size := by rw [hsz]; exact Nat.le_add_right _ _
  have I2 := I1.laid (a := h'.objs.size) (o := .ext (DictObj h'.objs.size es ep')) (h' := h'') (t' := tk) keep hsz' (ext_ok hob)
  have hn : H1 h'.objs.size = none := I1.hok.fresh hsz'
  refine ⟨.ref h'.objs.size, _, I2, rfl, ?_⟩
  have vx := (ext_alloc (ρ := ρ1) (u := .ext (DictObj h'.objs.size es ep')) hn).vx W1.sep
  have txp : Paired (TxE X ρ1 H1) (zipP [] (ws.zip pr2.1)) (PySem.merged [] (ws.zip its2)) := tx_zip .nil hv2 ry
  have hbig := I1.big
  have hml := merged_len (ws.zip its2) []
  have hzl : (zipP [] (ws.zip pr2.1)).length ≤ sizeLine := by
    have e5 : (zipP [] (ws.zip pr2.1)).length = (PySem.merged [] (ws.zip its2)).length := by have := congrArg List.length (txE_nodup txp); simpa using this
    have : its2.toArray.size ≤ sizeLine := by have := ry.length; simp; omega
    simp only [List.length_nil, Nat.zero_add] at hml
    omega
  have hsys : (h'.objs.size == sysModules) = false := beq_eq_false_iff_ne.mpr (Ne.symm (Nat.ne_of_lt (Nat.lt_of_lt_of_le hbig hsz')))
  have hnd2 : ((zipP [] (ws.zip pr2.1)).map fun p => keyOf p.1).Nodup := by
    rw [txE_nodup txp]
    have e6 : ((PySem.merged [] (ws.zip its2)).map fun q => some (NestedKey.text q.1)) = ((PySem.merged [] (ws.zip its2)).map (·.1)).map fun x => some (NestedKey.text x) := by rw [List.map_map]; rfl
    rw [e6]
    rw [List.nodup_iff_pairwise_ne, List.pairwise_map]
    exact (List.nodup_iff_pairwise_ne.mp hnd).imp fun ne e => ne (by cases e; rfl)
  refine pe _ _ (e4 ep') _ _ _ (y.trans W1.sep (ext_alloc hn)) (W1.alloc hn ⟨hsys, hzl, hnd2, es, upd_same, ?_⟩) (.loc (by rw [← W1.len]; exact List.getElem?_concat_length ..))
  refine Paired.mapP (tx_ent txp hpr fun e he => ?_) fun p e z => z.vx vx
  exact hks e (Array.mem_toList_iff.mp he)
end
section
variable {τ : DEnv} {S : Sto} {R : DQ} {wr : WA}
@[simp ↓] theorem wDictZip_ap : wDictZip wr τ S R = wr τ S fun ds S1 => ∃ (d1 d2 : D) (ws : List Str) (p1 p2 : List D × (Sto → Prop)), ds = [d1, d2] ∧ lstD S1 d1 = some p1 ∧ p1.1 = ws.map D.str ∧ lstD S1 d2 = some p2 ∧ ∀ ep, R (.loc S1.length) (S1 ++ [.dct ep (zipP [] (ws.zip p2.1))]) := rfl
end
end Dl

namespace Dl
open PySem L2 PyProof.Rows PySem.Spec

/-! ## set(t) of a tuple; dict(xs) of a list of pairs, keys whole numbers and texts -/
section
variable {P : Program} {w : World} {A : Around} {E : Value → Shared → Prop} {s : Shared} {a : Addr} {S : Key → Prop} {n : Nat}
/-- set(t), t a tuple -/
theorem call_setMT {l : Addr} {items : Array Value} (ks : List Key) {Q : Value → Shared → Prop} (hh : A.handled = none) (hl : s.heap.IsTuple l items) (hsz : items.size = ks.length) (hit : ∀ (i : Nat) (v : Value), items[i]? = some v → ∃ k, ks[i]? = some k ∧ keyIs k v = true) (hb : ks.length + 1 < scanBound)
    (h : ∀ (h' : Heap) (tk : Nat), SetM w h' s.heap.objs.size (fun j => j ∈ ks) ks.length → (∀ b o, s.heap.get? b = some o → h'.get? b = some o) → Q (.ref s.heap.objs.size) { s with heap := h', toks := tk }) :
    wpAny (model P w) A (call (.type "set") [.ref l]) Q E s := by
  obtain ⟨c, tl, hmro⟩ := F.called_set.mro
  have hmade := F.called_set.made
  have hsub := F.called_set.sub
  refine wpAny_call (codeAny_of_tree ?_)
  show wpAny _ _ (callAny (.type "set") _) _ _ _
  refine wpAny_pure ⟨Code.quiet_builtin _ (by decide +kernel), codeAny_builtin F.entry_type_call ?_⟩
  rw [Around.under_plain (weight_type_call_type "set" [.ref l] []) rfl]
  have h1 := F.called_set.notType
  have h2 := F.called_set.canCreate
  have hct := F.typeCall_set_1 (.ref l)
  repeat (any_goals (first | assumption | wp_step))
  refine codeAny_mono (code_set_led1 (.ref l) (E := E) (Q₁ := fun obj s₁ => obj = .ref s.heap.objs.size ∧ s₁ = { s with heap := s.heap.push { cls := .type "set", dict := none, data := .set #[] 0 (.fresh 0 0 (!w.params.followText "set-order")) } }) ⟨rfl, rfl⟩) fun r s₁ hr => ?_
  cases r with
  | error e => exact hr
  | ok fl =>
    cases fl with
    | ret obj =>
      obtain ⟨rfl, rfl⟩ := hr
      have hS : (s.heap.push ({ cls := .type "set", dict := none, data := .set #[] 0 (.fresh 0 0 (!w.params.followText "set-order")) } : Obj)).get? s.heap.objs.size = some ({ cls := .type "set", dict := none, data := .set #[] 0 (.fresh 0 0 (!w.params.followText "set-order")) } : Obj) := Heap.get?_push_size _ rfl
      have hT : Shared.TypeIs { s with heap := s.heap.push ({ cls := .type "set", dict := none, data := .set #[] 0 (.fresh 0 0 (!w.params.followText "set-order")) } : Obj) } (.ref s.heap.objs.size) "set" := ⟨_, hS, rfl⟩
      have hli := F.called_set.init.lookup
      have hbi := F.called_set.init.bind (.ref s.heap.objs.size)
      repeat (any_goals (first | assumption | wp_step))
      refine codeAny_mono (codeAny_call_builtin (R := wants (fun r s₂ => r = .none ∧ ∃ h' tk, s₂ = { s with heap := h', toks := tk } ∧ SetM w h' s.heap.objs.size (fun j => j ∈ ks) ks.length ∧
          (∀ b o, s.heap.get? b = some o → h'.get? b = some o)) E) F.called_set.init.plain F.entry_set_init (check_set_init_1 hT ?_)) fun r₂ s₂ hr₂ => ?_
      · obtain ⟨ol, hol, hcl, nl, hdl⟩ := hl
        obtain ⟨ocls, odict, odata, oslots⟩ := ol
        simp only at hcl hdl
        subst hcl; subst hdl
        have hol' : (s.heap.push ({ cls := .type "set", dict := none, data := .set #[] 0 (.fresh 0 0 (!w.params.followText "set-order")) } : Obj)).get? l = some { cls := .type "tuple", dict := odict, data := .seq items nl, slots := oslots } := Heap.get?_push_of_some _ hol
        have hsls := F.sub_tuple_set
        have hslf := F.sub_tuple_frozenset
        have hne : (Value.type "tuple" == Value.type "dict") = false := by decide
        have hl1 : (s.heap.push ({ cls := .type "set", dict := none, data := .set #[] 0 (.fresh 0 0 (!w.params.followText "set-order")) } : Obj)).IsTuple l items := ⟨_, hol', rfl, nl, rfl⟩
        unfold Builtin.«set.__init__» noKeywords Builtin.Frozenset.updateFrom
        generalize hPI : pyIter = PI
        wp_walk
        subst hPI
        refine wpAny_pyIter_tuple hl1 ?_
        refine wpAny_bind (wpAny_runValue ?_)
        have hlS : l < s.heap.objs.size := Heap.lt_size hol
        have hh3 : A.in1.in1.in1.handled = none := by simp [hh]
        have hneI : l ≠ (s.heap.push ({ cls := .type "set", dict := none, data := .set #[] 0 (.fresh 0 0 (!w.params.followText "set-order")) } : Obj)).objs.size := by
          rw [Heap.size_push]; exact Nat.ne_of_lt (Nat.lt_succ_of_lt hlS)
        have hSf : s.heap.objs.size ∉ [(s.heap.push ({ cls := .type "set", dict := none, data := .set #[] 0 (.fresh 0 0 (!w.params.followText "set-order")) } : Obj)).objs.size, l] := by
          rw [Heap.size_push]; simp only [List.mem_cons, List.mem_singleton, List.not_mem_nil, or_false, not_or]
          exact ⟨Nat.ne_of_lt (Nat.lt_succ_self _), Nat.ne_of_gt hlS⟩
        refine setM_update ((Walks.tuple hh3 _ l hneI items).toS) s.heap.objs.size
          hSf ks hsz hb hit (items.size - 0) 0 _ (by omega) (Nat.zero_le _)
          ⟨⟨_, Heap.get?_push_size _ rfl, rfl, rfl⟩, (hl1.push _)⟩ ?hS0 ?hR
        case hS0 =>
          have hget : ((s.heap.push ({ cls := .type "set", dict := none, data := .set #[] 0 (.fresh 0 0 (!w.params.followText "set-order")) } : Obj)).push { cls := .type "tuple_iterator", data := .fields #[.ref l, .int 0 0] }).get? s.heap.objs.size = some ({ cls := .type "set", dict := none, data := .set #[] 0 (.fresh 0 0 (!w.params.followText "set-order")) } : Obj) := Heap.get?_push_of_some _ hS
          exact (setM_fresh hget).congr (fun _ => by simp) (Nat.le_refl _)
        case hR =>
          intro s' hm hS'
          obtain ⟨h', g2, d', tk', os'⟩ := s'
          have eg : g2 = s.gens := hm.gens
          have ed : d' = s.drawn := hm.drawn
          have eo : os' = s.os := hm.os
          subst eg; subst ed; subst eo
          show wpAny _ _ _ _ _ _
          refine wpAny_pure ?_
          show wpAny _ _ (ret Value.none) _ _ _
          rw [hsz] at hS'
          refine wpAny_pure ⟨rfl, h', tk', rfl, hS', fun b o e => ?_⟩
          have hb0 : b < s.heap.objs.size := Heap.lt_size e
          have hb1 : b ≠ s.heap.objs.size := Nat.ne_of_lt hb0
          have hb2 : b ≠ (s.heap.push ({ cls := .type "set", dict := none, data := .set #[] 0 (.fresh 0 0 (!w.params.followText "set-order")) } : Obj)).objs.size := by
            rw [Heap.size_push]; exact Nat.ne_of_lt (Nat.lt_succ_of_lt hb0)
          exact hm.heap b o (by simp only [List.mem_cons, List.mem_singleton, List.not_mem_nil, or_false, not_or]; exact ⟨hb1, hb2⟩) (Heap.get?_push_of_some _ (Heap.get?_push_of_some _ e))
      · cases r₂ with
        | error e => exact hr₂
        | ok fl₂ =>
          cases fl₂ with
          | ret r =>
            obtain ⟨rfl, h', tk, rfl, hS', hk'⟩ := hr₂
            repeat (any_goals (first | assumption | wp_step))
            exact h _ _ hS' hk'
          | _ => exact hr₂.elim
    | _ => exact hr.elim
end
end Dl

namespace Dl
open PySem L2 PyProof.Rows PySem.Spec

/-! ## len(set(xs)), xs a list or a tuple; dict(xs), xs a list of pairs -/
def wSetLn (we : WE) : WE := fun τ S R => we τ S fun d S1 => ∃ (ks : List Key), seqD S1 d = some (ks.map kD) ∧ ks.length ≤ 4000 ∧ ∀ zs : List Key, zs.Nodup → (∀ k, k ∈ zs ↔ k ∈ ks) → R (.int (zs.length : Nat)) S1
section
variable {X : Cx} {a : Expr} {we : WE} {p p2 q pos : Pos}
theorem set_madeT {pins : List (Addr × Obj)} {σ : L2.St} {H : Hp} {s : Shared} {ρ : List Addr} {S : Sto} {A : Around} {E : Value → Shared → Prop} {d : D} {v : V} {u : Value} {ks : List Key} {Q : Value → Shared → Prop}
    (hh : A.handled = none) (I : L2.Inv X pins σ H s) (W : XW X ρ S H) (r : VR X.K ρ H d v) (ru : RelV v u) (e : seqD S d = some (ks.map kD)) (hl : ks.length ≤ 4000)
    (h : ∀ h' tk o es ep t, (∀ b o, s.heap.get? b = some o → h'.get? b = some o) → h'.get? s.heap.objs.size = some o → o.ExactSet → o.data = .set es ep t → TbM X.w es t (fun j => j ∈ ks) → es.size ≤ ks.length → Q (.ref s.heap.objs.size) { s with heap := h', toks := tk }) :
    wpAny (model X.prog X.w) A (call (.type "set") [u]) Q E s := by
  obtain ⟨l, vs, rfl, h1, hv⟩ := seqD_ok W r e
  cases (show u = Value.ref l from ru)
  rcases h1 with hq | hq
  · obtain ⟨its, rv, pl, hz⟩ := I.list hq
    obtain ⟨k1, k2⟩ := keys_items hv rv
    refine call_setM ks hh (show s.heap.IsList l its.toArray from pl.isList) (by simpa using k1) (fun i w e => k2 i w (by simpa using e)) (by unfold scanBound; omega) fun h' tk M hk => ?_
    obtain ⟨o, es, ep, t, ho, hex, hd, T, hn⟩ := M
    exact h h' tk o es ep t hk ho hex hd T hn
  · obtain ⟨its, rv, pl, hz⟩ := I.tuple hq
    obtain ⟨k1, k2⟩ := keys_items hv rv
    refine call_setMT ks hh (show s.heap.IsTuple l its.toArray from pl) (by simpa using k1) (fun i w e => k2 i w (by simpa using e)) (by unfold scanBound; omega) fun h' tk M hk => ?_
    obtain ⟨o, es, ep, t, ho, hex, hd, T, hn⟩ := M
    exact h h' tk o es ep t hk ho hex hd T hn
theorem de_setLn (hc : X.calm = true) (hg : Gl X "len") (hm : X.mg "len" = none) (hg2 : Gl X "set") (hm2 : X.mg "set" = none) (ha : PE X a (dE X we))
    (na : starEach [a] X.env = (false, eval a X.env) :: starEach [] X.env := by rfl) : PE X (.Call (.Name "len" p) [.Call (.Name "set" p2) [a] [] q] [] pos) (dE X (wSetLn we)) := by
  refine ⟨fun pins s σ H Q I ⟨ρ, τ, S, R, W, er, h, pe⟩ => ?_⟩
  refine Call_ (ld_blt I hg hm boot_len ?_)
  refine PyProof.Rows.callWith_builtin1 (PyProof.Rows.args_cons ?_ rfl) rfl rfl
  refine Call_ (ld_blt I hg2 hm2 boot_set ?_)
  refine PyProof.Rows.callWith_type1 (PyProof.Rows.args_cons (thn (ha.run pins s σ H (fun x H1 => ∃ (ρ1 : List Addr) (S1 : Sto) (d : D) (ks : List Key), Ext ρ H ρ1 H1 ∧ XW X ρ1 S1 H1 ∧ VR X.K ρ1 H1 d x ∧ seqD S1 d = some (ks.map kD) ∧ ks.length ≤ 4000 ∧ ∀ zs : List Key, zs.Nodup → (∀ k, k ∈ zs ↔ k ∈ ks) → R (.int (zs.length : Nat)) S1) I
    ⟨ρ, τ, S, _, W, er, h, fun d S1 ⟨ks, e1, e3, e4⟩ ρ1 H1 x y W1 r => ⟨ρ1, S1, d, ks, y, W1, r, e1, e3, e4⟩⟩) fun v s1 ⟨x, H1, I1, r1, q1⟩ => PyProof.Rows.args_nil ?_) na) na rfl
  obtain ⟨ρ1, S1, d, ks, y, W1, r, e1, e3, e4⟩ := q1
  refine set_madeT (I1.ok.hd hc) I1 W1 r r1 e1 e3 fun h' tk o es ep t hk ho hex hd T hn => ?_
  refine PyProof.Rows.args_nil ?_
  have I2 : L2.Inv X pins σ H1 { s1 with heap := h', toks := tk } := I1.kept hk
  refine call_len_set ho hex hd T.fits (by have := T.bd; unfold scanBound at this; omega) ⟨.int es.size, H1, I2.tok _, ⟨_, rfl⟩, ?_⟩
  have := e4 (es.toList.map vKey) T.nd fun k => (T.mem k).symm
  rw [List.length_map, Array.length_toList] at this
  exact pe _ _ this ρ1 H1 _ y W1 (show VR X.K ρ1 H1 (.int es.size) (V.int es.size) from rfl)
end
/-! ### pairs -/
/-- pairs, put one by one -/
noncomputable def zipK (acc : List (D × D)) (l : List (Key × D)) : List (D × D) := l.foldl (fun acc p => putP acc (kD p.1) p.2) acc
def TkE (X : Cx) (ρ : List Addr) (H : Hp) (p : D × D) (q : Key × Value) : Prop := p.1 = kD q.1 ∧ ∃ dv, VR X.K ρ H p.2 dv ∧ RelV dv q.2
section
variable {X : Cx} {pins : List (Addr × Obj)} {σ : L2.St} {H : Hp} {s : Shared} {ρ : List Addr} {S : Sto}
theorem tk_get : ∀ {kvs : List (D × D)} {qs : List (Key × Value)} {x : Key}, Paired (TkE X ρ H) kvs qs → (getP kvs (kD x)).isSome = qs.any fun q => decide (q.1 = x)
  | _, _, x, .nil => by simp [getP]
  | p :: kvs, q :: qs, x, .cons r t => by
    have ih := tk_get (x := x) t
    unfold getP at ih ⊢
    rw [List.find?_cons, List.any_cons]
    have e : (p.1 = kD x) ↔ q.1 = x := by rw [r.1]; exact ⟨kD_inj, fun e => by rw [e]⟩
    by_cases h : q.1 = x
    · simp [e.mpr h, h]
    · have h2 : ¬ p.1 = kD x := fun z => h (e.mp z)
      simp only [h, h2, decide_false, Bool.false_or]
      exact ih
theorem tk_map {x : Key} {d : D} {v : Value} {dv : V} (h1 : VR X.K ρ H d dv) (h2 : RelV dv v) : ∀ {kvs : List (D × D)} {qs : List (Key × Value)}, Paired (TkE X ρ H) kvs qs → Paired (TkE X ρ H) (kvs.map fun p => if p.1 = kD x then (p.1, d) else p) (qs.map fun q => if q.1 = x then (q.1, v) else q)
  | _, _, .nil => .nil
  | p :: kvs, q :: qs, .cons r t => by
    have ih := tk_map (x := x) h1 h2 t
    rw [List.map_cons, List.map_cons]
    refine .cons ?_ ih
    have e : (p.1 = kD x) ↔ q.1 = x := by rw [r.1]; exact ⟨kD_inj, fun e => by rw [e]⟩
    by_cases h : q.1 = x
    · rw [if_pos (e.mpr h), if_pos h]
      exact ⟨r.1, dv, h1, h2⟩
    · rw [if_neg (fun z => h (e.mp z)), if_neg h]
      exact r
theorem tk_put {x : Key} {d : D} {v : Value} {dv : V} {kvs : List (D × D)} {qs : List (Key × Value)} (t : Paired (TkE X ρ H) kvs qs) (h1 : VR X.K ρ H d dv) (h2 : RelV dv v) : Paired (TkE X ρ H) (putP kvs (kD x) d) (PySem.stored qs x v) := by
  unfold putP PySem.stored
  rw [tk_get t]
  by_cases c : (qs.any fun q => decide (q.1 = x)) = true
  · rw [if_pos c, if_pos c]
    exact tk_map h1 h2 t
  · rw [if_neg c, if_neg c]
    exact paired_app ⟨rfl, dv, h1, h2⟩ t
/-- the pairs, put -/
theorem tk_zip : ∀ {ps : List (Key × D)} {rs : List (Key × Value)} {kvs : List (D × D)} {qs : List (Key × Value)}, Paired (TkE X ρ H) kvs qs → Paired (fun (p : Key × D) (r : Key × Value) => r.1 = p.1 ∧ ∃ dv, VR X.K ρ H p.2 dv ∧ RelV dv r.2) ps rs → Paired (TkE X ρ H) (zipK kvs ps) (PySem.merged qs rs)
  | _, _, kvs, qs, t, .nil => by simpa [zipK, PySem.merged] using t
  | p :: ps, r :: rs, kvs, qs, t, .cons ⟨h0, dv, h1, h2⟩ h => by
    have := tk_zip (tk_put (x := p.1) t h1 h2) h
    rw [← h0] at this
    simpa [zipK, PySem.merged, h0] using this
theorem tk_nodup : ∀ {kvs : List (D × D)} {qs : List (Key × Value)}, Paired (TkE X ρ H) kvs qs → (kvs.map fun p => keyOf p.1) = qs.map fun q => keyOf (kD q.1)
  | _, _, .nil => rfl
  | _, _, .cons r t => by rw [List.map_cons, List.map_cons, tk_nodup t, r.1]
theorem tk_ent : ∀ {kvs : List (D × D)} {qs : List (Key × Value)} {es : List DictEntry}, Paired (TkE X ρ H) kvs qs → Pairs (mixKind X.prog X.w) es qs → (∀ e ∈ es, ∃ k, (mixKind X.prog X.w).is k e.key = true ∧ e.hash = (mixKind X.prog X.w).hash k) → Paired (EntR X.w X.K ρ H) kvs es
  | _, _, _, .nil, .nil, _ => .nil
  | p :: _, q :: _, e :: _, .cons ⟨r1, dv, r2, r3⟩ t, .cons g1 g2 t2, hk => by
    refine .cons ?_ (tk_ent t t2 fun e he => hk e (List.mem_cons_of_mem _ he))
    obtain ⟨k, k1, k2⟩ := hk e List.mem_cons_self
    have ek : k = q.1 := (mixKind X.prog X.w).inj _ _ _ k1 g1
    subst ek
    obtain ⟨key, val⟩ := q
    cases key with
    | inl i =>
      obtain ⟨u, hu⟩ := Value.isInt_shape g1
      exact ⟨.num i, .int i, dv, by rw [r1]; rfl, Nat.zero_le _, by rw [k2]; rfl, by rw [r1]; exact .int, ⟨u, hu⟩, r2, by rw [g2]; exact r3⟩
    | inr x =>
      obtain ⟨u, hu⟩ := Value.isStrOf_shape g1
      exact ⟨.text x, .str x, dv, by rw [r1]; rfl, Nat.zero_le _, by rw [k2]; rfl, by rw [r1]; exact .str, ⟨u, hu⟩, r2, by rw [g2]; exact r3⟩
/-- where the pairs stand -/
theorem pairs_at (I : L2.Inv X pins σ H s) : ∀ {ps : List (Key × D)} {vs : List V} {us : List Value}, VRs X.K ρ H (ps.map fun p => D.tup [kD p.1, p.2]) vs → Vals vs us →
    ∃ (rs : List (Key × Value)) (zs : List (Value × Value)), us.length = ps.length ∧ zs.length = ps.length ∧ Paired (fun (p : Key × D) (r : Key × Value) => r.1 = p.1 ∧ ∃ dv, VR X.K ρ H p.2 dv ∧ RelV dv r.2) ps rs ∧
      ∀ (j : Nat) k v, zs[j]? = some (k, v) → (∃ a, us[j]? = some (.ref a) ∧ PairAt s.heap a k v) ∧ ∃ key, rs[j]? = some (key, v) ∧ keyIs key k = true
  | [], vs, us, h, r => by
    rw [List.map_nil] at h
    unfold VRs at h
    subst h
    cases r
    exact ⟨[], [], rfl, rfl, .nil, fun j k v e => by simp at e⟩
  | p :: ps, vs, us, h, r => by
    rw [List.map_cons] at h
    unfold VRs at h
    obtain ⟨v, vr, rfl, g1, g2⟩ := h
    cases r with
    | cons r1 r2 =>
    rename_i u ur
    obtain ⟨rs, zs, h1, h2, h3, h4⟩ := pairs_at I g2 r2
    unfold VR at g1
    obtain ⟨a, ws, rfl, g3, g4⟩ := g1
    cases (show u = Value.ref a from r1)
    obtain ⟨its, rv, pt, _⟩ := I.tuple g3.sq
    obtain ⟨k1, k2, rfl, q1, q2⟩ := g4.two_of
    obtain ⟨u1, u2, rfl, w1, w2⟩ := vals2 rv
    refine ⟨(p.1, u2) :: rs, (u1, u2) :: zs, by simp [h1], by simp [h2], .cons ⟨rfl, k2, q2, w2⟩ h3, fun j k v e => ?_⟩
    cases j with
    | zero =>
      have e' : (u1, u2) = (k, v) := by simpa using e
      cases e'
      refine ⟨⟨a, rfl, .inl pt⟩, p.1, rfl, ?_⟩
      cases hk : p.1 with
      | inl i =>
        rw [hk] at q1
        cases (show k1 = V.int i from q1)
        obtain ⟨t, rfl⟩ := (show ∃ t, u1 = Value.int i t from w1)
        exact keyIs_int _ _
      | inr x =>
        rw [hk] at q1
        cases (show k1 = V.str x from q1)
        obtain ⟨t, rfl⟩ := (show ∃ t, u1 = Value.str x t from w1)
        exact keyIs_str _ _
    | succ j => exact h4 j k v (by simpa using e)
def dDictP : DCall := fun ds S R => ∃ (d : D) (pr : List D × (Sto → Prop)) (ps : List (Key × D)), ds = [d] ∧ lstD S d = some pr ∧ pr.1 = ps.map (fun p => D.tup [kD p.1, p.2]) ∧ ∀ ep, R (.loc S.length) (S ++ [.dct ep (zipK [] ps)])
theorem cd_dictP (hc : X.calm = true) : CallR X (.type "dict") (rCD X dDictP) := by
  intro pins s σ H xs us Q I rs ⟨ρ, S, ds, R, W, r, ⟨d, pr, ps, e0, e1, e2, e4⟩, p⟩
  subst e0
  obtain ⟨v, rfl, rv⟩ := r.one_of
  obtain ⟨u, rfl, ru⟩ := vals1 rs
  obtain ⟨l, vs, rfl, hq, hv, _⟩ := lstD_ok W rv e1
  cases (show u = Value.ref l from ru)
  obtain ⟨its, rx, pl, hz⟩ := I.list hq
  rw [e2] at hv
  obtain ⟨rs', zs, h1, h2, h3, h4⟩ := pairs_at I hv rx
  have hlr : rs'.length = ps.length := by have := h3.length; omega
  let Ts : Nat → Addr := fun j => match its[j]? with
    | some (.ref a) => a
    | _ => 0
  have hPI : PairItems s.heap its.toArray Ts zs := ⟨by simp [h1, h2], fun j k v e => by
    obtain ⟨⟨a, g1, g2⟩, _⟩ := h4 j k v e
    have eT : Ts j = a := by simp only [Ts, g1]
    rw [eT]
    exact ⟨by simpa using g1, g2⟩⟩
  obtain ⟨o, n, ho, hcl, hdi, hdt⟩ := pl
  refine call_dict_pairs (knd := mixKind X.prog X.w) (kvs := rs') (PairArg.list l its.toArray Ts zs) (I.ok.hd hc) ⟨⟨o, n, ho, hcl, hdi, hdt⟩, hPI⟩ ⟨by omega, fun i key v e => ?_⟩ ?_ fun h' tk hd hkk => ?_
  · obtain ⟨_, k, g1, g2⟩ := h4 i key v e
    exact ⟨k, g1, g2⟩
  · have := rx.length
    omega
  obtain ⟨o, es, ep', ho, hx, hdat, hks, hpr, hnd⟩ := hd
  have hob : DictObj s.heap.objs.size es ep' h' := ⟨o, ho, hx, hdat⟩
  have keep : ∀ b o, s.heap.get? b = some o → h'.get? b = some o := fun b o e => hkk b o (fun z => nomatch z) e
  have I2 := I.laid (a := s.heap.objs.size) (o := .ext (DictObj s.heap.objs.size es ep')) (h' := h') (t' := tk) keep (Nat.le_refl _) (ext_ok hob)
  have hn : H s.heap.objs.size = none := I.hok.fresh (Nat.le_refl _)
  refine ⟨.ref s.heap.objs.size, _, I2, rfl, ?_⟩
  have vx := (ext_alloc (ρ := ρ) (u := .ext (DictObj s.heap.objs.size es ep')) hn).vx W.sep
  have txp : Paired (TkE X ρ H) (zipK [] ps) (PySem.merged [] rs') := tk_zip .nil h3
  have hml := merged_len rs' []
  have hzl : (zipK [] ps).length ≤ sizeLine := by
    have e5 : (zipK [] ps).length = (PySem.merged [] rs').length := by have := congrArg List.length (tk_nodup txp); simpa using this
    have := rx.length
    simp only [List.length_nil, Nat.zero_add] at hml
    omega
  have hnd2 : ((zipK [] ps).map fun p => keyOf p.1).Nodup := by
    rw [tk_nodup txp]
    have e6 : ((PySem.merged [] rs').map fun q => keyOf (kD q.1)) = ((PySem.merged [] rs').map (·.1)).map fun x => keyOf (kD x) := by rw [List.map_map]; rfl
    rw [e6]
    rw [List.nodup_iff_pairwise_ne, List.pairwise_map]
    refine (List.nodup_iff_pairwise_ne.mp hnd).imp fun {a b} ne e => ne ?_
    cases a <;> cases b <;> simp [kD, keyOf] at e <;> simp [e]
  refine p _ _ (e4 ep') _ _ _ (ext_alloc hn) (W.alloc hn ⟨sys_new I.big, hzl, hnd2, es, upd_same, ?_⟩) (.loc (by rw [← W.len]; exact List.getElem?_concat_length ..))
  refine Paired.mapP (tk_ent txp hpr fun e he => ?_) fun p e z => z.vx vx
  exact hks e (Array.mem_toList_iff.mp he)
end
section
variable {τ : DEnv} {S : Sto} {R : DQ} {we : WE} {d : D}
@[simp ↓] theorem wSetLn_ap : wSetLn we τ S R = we τ S fun d S1 => ∃ (ks : List Key), seqD S1 d = some (ks.map kD) ∧ ks.length ≤ 4000 ∧ ∀ zs : List Key, zs.Nodup → (∀ k, k ∈ zs ↔ k ∈ ks) → R (.int (zs.length : Nat)) S1 := rfl
theorem dDictP_ap : dDictP [d] S R = ∃ (pr : List D × (Sto → Prop)) (ps : List (Key × D)), lstD S d = some pr ∧ pr.1 = ps.map (fun p => D.tup [kD p.1, p.2]) ∧ ∀ ep, R (.loc S.length) (S ++ [.dct ep (zipK [] ps)]) := by simp [dDictP]
end
end Dl

namespace Dl
open PySem L2 PyProof.Rows PySem.Spec
open Sem (wp)

/-! ## for i, x in enumerate(t), t a tuple -/
theorem meets_enumerate_newT (l : Addr) (items : Array Value) :
    Meets (Builtin.«enumerate.__new__» ⟨[.type "enumerate", .ref l], []⟩) (fun _ R s => s.heap.IsTuple l items ∧
      R (.ok (.ret (.ref (s.heap.push { cls := .type "tuple_iterator", data := .fields #[.ref l, .int 0 0] }).objs.size)))
        { s with heap := (s.heap.push { cls := .type "tuple_iterator", data := .fields #[.ref l, .int 0 0] }).push { cls := .type "enumerate", data := .fields #[.none, .bool false, .ref s.heap.objs.size, rawInt 0, .none, .none] } }) :=
  .of_wp fun prog w A R s h => by
    obtain ⟨hp, g, d, tk, os⟩ := s; obtain ⟨hL, h⟩ := h
    have hsub := sub_enumerate
    have q1 : ∀ {A' : Around} {E : Value → Shared → Prop} {Q : Value → Shared → Prop}, Q (.ref hp.objs.size) ⟨hp.push { cls := .type "tuple_iterator", data := .fields #[.ref l, .int 0 0] }, g, d, tk, os⟩ → wpAny (model prog w) A' (pyIter (.ref l)) Q E ⟨hp, g, d, tk, os⟩ :=
      fun q => (begins_tuple l items).iter prog w _ _ ⟨hp, g, d, tk, os⟩ _ hL q
    wp_walk using q1
    refine wpAny_stack_any fun st => wpAny_pure ?_
    split
    · rename_i c _ _ _ _ _
      cases (c == Value.type "enumerate")
      · wp_walk using q1
        exact ⟨_, rfl, h⟩
      · wp_walk using q1
        exact ⟨_, rfl, h⟩
    · wp_walk using q1
      exact ⟨_, rfl, h⟩
section
variable {prog : Program} {w : World} {A : Around} {E : Value → Shared → Prop} {s : Shared}
theorem call_enumerate_tuple {l : Addr} {items : Array Value} {Q : Value → Shared → Prop} (hL : s.heap.IsTuple l items)
    (h : ∀ h', IsEnum h' (s.heap.objs.size + 1) s.heap.objs.size 0 .none → h'.IsTupleIter s.heap.objs.size l 0 → h'.objs.size = s.heap.objs.size + 2 →
      (∀ b o, s.heap.get? b = some o → h'.get? b = some o) → Q (.ref (s.heap.objs.size + 1)) { s with heap := h' }) :
    wpAny (model prog w) A (call (.type "enumerate") [.ref l]) Q E s := by
  refine callType_new PySem.F.called_enumerate (by decide) (PySem.F.typeCall_enumerate_1 _) (PySem.F.newCall_enumerate_1 _) (fun obj => PySem.F.args_object_init_2 obj _) PySem.F.entry_enumerate_new
    (meets_enumerate_newT l items) ⟨hL, ?_⟩
  have hz : (s.heap.push { cls := .type "tuple_iterator", data := .fields #[.ref l, .int 0 0] }).objs.size = s.heap.objs.size + 1 := Heap.size_push ..
  show _ ∧ _
  rw [hz]
  have he : IsEnum ((s.heap.push { cls := .type "tuple_iterator", data := .fields #[.ref l, .int 0 0] }).push
      { cls := .type "enumerate", data := .fields #[.none, .bool false, .ref s.heap.objs.size, rawInt 0, .none, .none] }) (s.heap.objs.size + 1) s.heap.objs.size 0 .none := by
    have := Heap.get?_push_size (s.heap.push { cls := .type "tuple_iterator", data := .fields #[.ref l, .int 0 0] })
      (o := { cls := .type "enumerate", data := .fields #[.none, .bool false, .ref s.heap.objs.size, rawInt 0, .none, .none] }) rfl
    rw [hz] at this; exact this
  refine ⟨⟨_, he, rfl⟩, h _ he ⟨_, Heap.get?_push_of_some _ (Heap.get?_push_size _ rfl), rfl, rfl⟩ (by rw [Heap.size_push, hz]) fun b o x => Heap.get?_push_of_some _ (Heap.get?_push_of_some _ x)⟩
end
/-- the tuple at a, each item in a new pair -/
def IteT (K : PySem.W.Frag) (a : Addr) : It :=
  ⟨fun i H => ∃ (xs : List V) (x : V), SqT K H a xs ∧ xs[i]? = some x, fun i H v H' => ∃ T x, v = .ref T ∧ H T = none ∧ H' = upd H T (.tup [.int (i : Nat), x]) ∧ ∀ xs, SqT K H a xs → xs[i]? = some x, fun i H => ∃ xs : List V, SqT K H a xs ∧ xs.length ≤ i⟩
theorem turn_enumT {P : Program} {w : World} {K : PySem.W.Frag} {elts : List Expr} {kk : Nat} {tpos : Pos} (a e it : Addr) :
    Turn P w K (.Tuple elts kk tpos) (IteT K a) [e, it] e (fun i h => (∃ old, IsEnum h e it ((i : Nat) : Int) old) ∧ h.IsTupleIter it a i ∧ e ≠ it ∧ a ≠ it ∧ e ≠ a) where
  mem := by simp
  obj := fun i h st b hb => by
    obtain ⟨⟨old, he⟩, ⟨o, ho, hc, hd⟩, _⟩ := st
    have e' : b = e ∨ b = it := by simpa using hb
    rcases e' with z | z
    · rw [z]; exact ⟨_, he, fun v q => nomatch q⟩
    · rw [z]; exact ⟨o, ho, fun v q => by rw [hd] at q; cases q⟩
  keep := fun i h h' st k => let ⟨⟨old, he⟩, hi, hne⟩ := st; ⟨⟨old, k e (by simp) _ he⟩, hi.at fun o q => k it (by simp) o q, hne⟩
  item := by
    intro X hP hw hK hc i pins s σ H E I hf st hg
    subst hP hw hK
    obtain ⟨⟨old, he⟩, hit, hne, hat, hea⟩ := st
    obtain ⟨xs, x, hq, hx⟩ := hg
    obtain ⟨its, rv, p, hz⟩ := I.tuple hq
    obtain ⟨u, hu, ru⟩ := rv.get hx
    have hel : e < s.heap.objs.size := Heap.lt_size he
    have hil : it < s.heap.objs.size := by obtain ⟨_, q, _⟩ := hit; exact Heap.lt_size q
    have hlt : i < its.toArray.size := by have := (List.getElem?_eq_some_iff.mp hu).1; simpa using this
    refine wpAny_pyNext_enum_itemC (Draws.tuple (A := X.A.in1) (I.ok.hd hc) it a hat its.toArray) he ⟨hit, p⟩ hlt hne (by simp; exact ⟨hne, hea⟩) fun x' h' tk hP' ho hit' hT hsz hk => ?_
    have hx' : x' = u := by
      have hP'' : its.toArray[i]? = some x' := hP'
      have : its[i]? = some x' := by simpa using hP''
      rw [hu] at this
      exact (Option.some.inj this).symm
    subst hx'
    refine ⟨_, rfl, wpAny_letOwnedTupleGo_enum (s := { s with heap := h', toks := tk + 1 }) ho fun h'' he' sb => ?_⟩
    have hT2 : h''.get? s.heap.objs.size = some { cls := .type "tuple", data := .seq #[.int i tk, x'] } := (sb.2 _ (Nat.ne_of_gt hel)).trans hT
    have new : ObjOk X.prog X.w (upd H s.heap.objs.size (.tup [.int (i : Nat), x])) h'' s.heap.objs.size (.tup [.int (i : Nat), x]) :=
      ⟨by show 2 ≤ sizeLine; decide, [.int i tk, x'], .cons ⟨_, rfl⟩ (.cons ru .nil), ⟨_, hT2, rfl, _, rfl⟩⟩
    have I1 : L2.Inv X pins σ (upd H s.heap.objs.size (.tup [.int (i : Nat), x])) { s with heap := h'', toks := tk + 1 } :=
      I.turnedNew (ch := [e, it]) (fun b ob hb q => (sb.2 b (fun z => hb (by simp [z]))).trans (hk b ob (fun z => hb (by simp [z])) (fun z => hb (by simp [z])) q)) hf (Nat.le_refl _) new
    refine ⟨.ref s.heap.objs.size, _, I1, rfl, ⟨_, x, rfl, I.hok.fresh (Nat.le_refl _), rfl, fun ys hy => by rw [I.tuple_inj hy hq]; exact hx⟩, ⟨⟨x', ?_⟩, hit'.1.at fun o q => (sb.2 it (Ne.symm hne)).trans q, hne, hat, hea⟩, fun b hb => ?_⟩
    · have e1 : ((i + 1 : Nat) : Int) = (i : Int) + 1 := by omega
      rw [e1]; exact he'
    · have hb' : b < s.heap.objs.size := by
        have e' : b = e ∨ b = it := by simpa using hb
        rcases e' with z | z
        · rw [z]; exact hel
        · rw [z]; exact hil
      rw [upd_ne (Nat.ne_of_lt hb')]
      exact (hf b hb).1
  done := by
    intro X hP hw hK hc i pins s σ H E I hf st hg
    subst hP hw hK
    obtain ⟨⟨old, he⟩, hit, hne, hat, hea⟩ := st
    obtain ⟨xs, hq, hx⟩ := hg
    obtain ⟨its, rv, p, hz⟩ := I.tuple hq
    obtain ⟨f0, f1, f2, f3, f4, f5⟩ := hf it (by simp)
    have hl := rv.length
    have D : Draws X.prog X.w X.A.in1 it [it, a] i (fun _ _ => False) (fun j h => j = i ∧ h.IsTupleIter it a i ∧ h.IsTuple a its.toArray) := {
      live := fun _ _ st => let ⟨o, ho, _⟩ := st.2.1; ⟨o, ho⟩
      frame := fun _ _ _ st hk => ⟨st.1, st.2.1.at fun o e => hk it (by simp) o e, st.2.2.at fun o e => hk a (by simp) o e⟩
      item := fun j s Q E hj st _ => absurd st.1 (by omega)
      done := fun s Q E st hE => wpAny_nextOf_tuple_end (I.ok.hd hc) st.2.1 st.2.2 (by simp; omega) hE }
    exact wpAny_pyNext_enum_endD D he ⟨rfl, hit, p⟩ fun h' eb => ⟨rfl, I.turned (t' := s.toks) (fun b o hb q => eb b o hb q) f0 f1 f3 f4 f5⟩
  self := fun A i s Q E st h => let ⟨⟨_, he⟩, _⟩ := st; wpAny_pyIter_enum he h
def iEnumA (K : PySem.W.Frag) (ta : TA) : TI := fun σ H R => ta σ H fun vs H1 => ∃ a, vs = [.ref a] ∧ ((∃ xs, SqL K H1 a xs ∧ R (Ite K a) H1) ∨ ∃ xs, SqT K H1 a xs ∧ R (IteT K a) H1)
theorem pi_enumA {X : Cx} {e : Expr} {ta : TA} {p pos tpos : Pos} {elts : List Expr} {kk : Nat} (hg : Gl X "enumerate") (hm : X.mg "enumerate" = none) (ha : PA X [e] ta) (hs : starEach [e] X.env = [(false, eval e X.env)] := by rfl) :
    PI X (.Tuple elts kk tpos) (.Call (.Name "enumerate" p) [e] [] pos) (iEnumA X.K ta) := by
  refine ⟨fun pins s σ H R I h => ?_⟩
  refine Call_ (ld_blt I hg hm boot_enumerate (PyProof.Rows.callWith_type1 (thn (ha.run pos pins s σ H _ I h) fun us s1 ⟨vs, H1, I1, r1, q1⟩ => ?_) hs rfl))
  obtain ⟨a, ex, q⟩ := q1
  subst ex
  cases r1 with
  | cons r rr =>
    cases rr
    cases r
    rcases q with ⟨xs, hq, q⟩ | ⟨xs, hq, q⟩
    · obtain ⟨its, rv, p', hz⟩ := I1.list hq
      refine call_enumerate_list p'.isList fun h' he hit hsz hk => wpAny_pyIter_enum he ?_
      have I2 : L2.Inv X pins σ H1 { s1 with heap := h' } := I1.kept (t' := s1.toks) hk
      refine ⟨s1.heap.objs.size + 1, [s1.heap.objs.size + 1, s1.heap.objs.size], _, _, H1, rfl, I2, turn_enum a (s1.heap.objs.size + 1) s1.heap.objs.size, ⟨⟨.none, he⟩, hit, Nat.succ_ne_self _⟩, fun b hb => ?_, q⟩
      have e' : b = s1.heap.objs.size + 1 ∨ b = s1.heap.objs.size := by simpa using hb
      have hle : s1.heap.objs.size ≤ b := by
        rcases e' with z | z
        · rw [z]; exact Nat.le_add_right _ _
        · rw [z]; exact Nat.le_refl _
      exact I1.fpOk hle (I1.hok.fresh hle)
    · obtain ⟨its, rv, p', hz⟩ := I1.tuple hq
      have la : a < s1.heap.objs.size := p'.lt
      refine call_enumerate_tuple (show s1.heap.IsTuple a its.toArray from p') fun h' he hit hsz hk => wpAny_pyIter_enum he ?_
      have I2 : L2.Inv X pins σ H1 { s1 with heap := h' } := I1.kept (t' := s1.toks) hk
      refine ⟨s1.heap.objs.size + 1, [s1.heap.objs.size + 1, s1.heap.objs.size], _, _, H1, rfl, I2, turn_enumT a (s1.heap.objs.size + 1) s1.heap.objs.size, ⟨⟨.none, he⟩, hit, Nat.succ_ne_self _, Nat.ne_of_lt la, Ne.symm (Nat.ne_of_lt (Nat.lt_succ_of_lt la))⟩, fun b hb => ?_, q⟩
      have e' : b = s1.heap.objs.size + 1 ∨ b = s1.heap.objs.size := by simpa using hb
      have hle : s1.heap.objs.size ≤ b := by
        rcases e' with z | z
        · rw [z]; exact Nat.le_add_right _ _
        · rw [z]; exact Nat.le_refl _
      exact I1.fpOk hle (I1.hok.fresh hle)
section
variable {X : Cx}
theorem jr_enumT {ρ : List Addr} {H : Hp} {a : Addr} {xs : List D} (h : TupHas X ρ H a xs) : JR X (IteT X.K a) ρ H (enumD xs) (fun _ => True) where
  go := fun i d ρ' S' H' x W' hc hd => by
    obtain ⟨d1, g1, rfl⟩ := enum_get hd
    obtain ⟨vs, q1, r1⟩ := h ρ' S' H' x W'
    obtain ⟨v, e1, k1⟩ := r1.get g1
    refine ⟨⟨vs, v, q1, e1⟩, fun y H2 ⟨T, x', e, hT, hH, p1⟩ => ?_⟩
    have e3 := p1 vs q1
    rw [e1] at e3
    cases e3
    subst e hH
    exact ⟨ext_new hT, W'.laid hT, .tup (.inl upd_same) (.cons .int (.cons (k1.ext W'.sep (ext_new hT)) .nil))⟩
  stop := fun i ρ' S' H' x W' hc hi => by
    obtain ⟨vs, h1, h2⟩ := h ρ' S' H' x W'
    refine ⟨vs, h1, ?_⟩
    rw [h2.length]
    unfold enumD at hi
    simpa using hi
def wiEnumA (wr : WA) : WI := fun τ S R => wr τ S fun ds S1 => ∃ d, ds = [d] ∧ ((∃ p, lstD S1 d = some p ∧ R (enumD p.1) p.2 S1) ∨ ∃ xs, d = .tup xs ∧ R (enumD xs) (fun _ => True) S1)
theorem di_enumA {e : Expr} {wr : WA} {p pos tpos : Pos} {elts : List Expr} {kk : Nat} (hm : X.mg "enumerate" = none) (hg : Gl X "enumerate") (ha : PA X [e] (dA X wr)) (hs : starEach [e] X.env = [(false, eval e X.env)] := by rfl) :
    PI X (.Tuple elts kk tpos) (.Call (.Name "enumerate" p) [e] [] pos) (dI X (wiEnumA wr)) :=
  PI.imp (pi_enumA hg hm ha hs) fun σ H R ⟨ρ, τ, S, Rd, W, er, h, p⟩ => ⟨ρ, τ, S, _, W, er, h, fun ds S1 ⟨d, e1, h1⟩ ρ1 H1 vs x1 W1 r => by
    subst e1
    obtain ⟨v, rfl, r1⟩ := r.one_of
    rcases h1 with ⟨pr, e2, h1⟩ | ⟨xs, e2, h1⟩
    · obtain ⟨a, vs, rfl, h2, h3, l1⟩ := lstD_ok W1 r1 e2
      exact ⟨a, rfl, .inl ⟨vs, h2, p _ _ S1 h1 ρ1 H1 _ x1 W1 (jr_enum l1)⟩⟩
    · subst e2
      unfold VR at r1
      obtain ⟨a, vs, rfl, h2, h3⟩ := r1
      exact ⟨a, rfl, .inr ⟨vs, h2.sq, p _ _ S1 h1 ρ1 H1 _ x1 W1 (jr_enumT (tupHas W1 h2 h3))⟩⟩⟩
end
@[simp ↓] theorem wiEnumA_ap {wr : WA} {τ : DEnv} {S : Sto} {Ri : List D → (Sto → Prop) → Sto → Prop} : wiEnumA wr τ S Ri = wr τ S fun ds S1 => ∃ d, ds = [d] ∧ ((∃ p, lstD S1 d = some p ∧ Ri (enumD p.1) p.2 S1) ∨ ∃ xs, d = .tup xs ∧ Ri (enumD xs) (fun _ => True) S1) := rfl
end Dl

namespace Dl
open PySem L2 PyProof.Rows PySem.Spec

/-! ## range with a step -/
def rangeC (lo c : Int) (n : Nat) : List D := (List.range n).map fun k => D.int (lo + (k : Nat) * c)
section
variable {X : Cx}
theorem jr_rangeC {ρ : List Addr} {H : Hp} (lo c : Int) (n : Nat) : JR X (Itc lo c n) ρ H (rangeC lo c n) (fun _ => True) where
  go := fun i d ρ' S' H' xx W' hc hd => by
    unfold rangeC at hd
    rw [List.getElem?_map] at hd
    by_cases hl : i < n
    · rw [List.getElem?_range hl] at hd
      cases hd
      refine ⟨hl, fun y H2 ⟨e1, e2⟩ => ?_⟩
      subst e1
      rw [e2]
      exact ⟨Ext.refl _ _, W', .int⟩
    · rw [List.getElem?_eq_none (by simp; omega)] at hd
      cases hd
  stop := fun i ρ' S' H' xx W' hc hi => by
    have : n ≤ i := by
      unfold rangeC at hi
      simpa using hi
    exact this
def wiRange3 (wr : WA) : WI := fun τ S R => wr τ S fun ds S1 => ∃ (i j c : Int) (n : Nat), ds = [.int i, .int j, .int c] ∧ RgC i j c n ∧ R (rangeC i c n) (fun _ => True) S1
theorem di_range3 {tg a b c : Expr} {wr : WA} {p pos : Pos} (hm : X.mg "range" = none) (hg : Gl X "range") (ha : PA X [a, b, c] (dA X wr))
    (hs : starEach [a, b, c] X.env = (false, eval a X.env) :: starEach [b, c] X.env := by rfl) (hpl : (backTo pos (starEach [b, c] X.env)).any (·.1) = false := by rfl) :
    PI X tg (.Call (.Name "range" p) [a, b, c] [] pos) (dI X (wiRange3 wr)) :=
  PI.imp (pi_range3 hg hm ha hs hpl) fun σ H R ⟨ρ, τ, S, Rd, W, er, h, p⟩ => ⟨ρ, τ, S, _, W, er, h, fun ds S1 ⟨i, j, c, n, e, b1, h1⟩ ρ1 H1 vs x1 W1 r => by
    subst e
    obtain ⟨v, u, t, rfl, r1, r2, r3⟩ := r.three_of
    cases r1.int_of
    cases r2.int_of
    cases r3.int_of
    exact ⟨i, j, c, n, rfl, b1, p _ _ S1 h1 ρ1 H1 _ x1 W1 (jr_rangeC i c n)⟩⟩
end
@[simp ↓] theorem wiRange3_ap {wr : WA} {τ : DEnv} {S : Sto} {Ri : List D → (Sto → Prop) → Sto → Prop} : wiRange3 wr τ S Ri = wr τ S fun ds S1 => ∃ (i j c : Int) (n : Nat), ds = [.int i, .int j, .int c] ∧ RgC i j c n ∧ Ri (rangeC i c n) (fun _ => True) S1 := rfl
end Dl

namespace Dl
open PySem L2 PyProof.Rows PySem.Spec

/-! ## x.isupper() -/
section
variable {X : Cx}
def dIsup : DMt := fun d ds S R => ∃ a, d = .str a ∧ ds = [] ∧ R (.bl (Txt.isupper a)) S
theorem md_isupper : MtR X "str.isupper" (rMD X dIsup) := MtR.imp mt_isupper fun x us H Q ⟨ρ, S, d, ds, R, W, r1, r2, ⟨a, e1, e2, q⟩, p⟩ => by
  subst e1 e2
  refine ⟨a, r1.str_of, ?_, trivial, p _ _ q ρ H _ (Ext.refl _ _) W .bl⟩
  unfold VRs at r2
  exact r2
end
@[simp] theorem dIsup_ap {x : Str} {S : Sto} {R : DQ} : dIsup (.str x) [] S R = R (.bl (Txt.isupper x)) S := by simp [dIsup]
end Dl

namespace Dl
open PySem L2 PyProof.Rows PySem.Spec

/-! ## a tuple so many times -/
section
variable {X : Cx}
def dMulT : DOp := fun d1 d2 S R => ∃ xs k, d1 = .tup xs ∧ d2 = .int k ∧ xs ≠ [] ∧ 2 ≤ k ∧ k ≤ 1000 ∧ xs.length ≤ 1000 ∧ R (.tup (List.replicate k.toNat xs).flatten) S
theorem od_mulT : OpR X (binaryOp .Mult) (rD X dMulT) := OpR.imp op_repT fun x y H Q ⟨ρ, S, d1, d2, R, W, r1, r2, ⟨xs, k, e1, e2, h0, b1, b2, hz, q⟩, p⟩ => by
  subst e1 e2
  unfold VR at r1
  obtain ⟨a, vs, rfl, h2, h3⟩ := r1
  have hl := h3.length
  exact ⟨a, k, vs, rfl, r2.int_of, h2.sq, fun e => h0 (by subst e; exact List.length_eq_zero_iff.mp (by simpa using hl.symm)), b1, b2, by omega, fun c hc => new_tup W (h3.rep _) q p hc⟩
end
@[simp] theorem dMulT_ap {xs : List D} {k : Int} {S : Sto} {R : DQ} : dMulT (.tup xs) (.int k) S R = (xs ≠ [] ∧ 2 ≤ k ∧ k ≤ 1000 ∧ xs.length ≤ 1000 ∧ R (.tup (List.replicate k.toNat xs).flatten) S) := by simp [dMulT]
end Dl

namespace Dl
open PySem L2 PyProof.Rows PySem.Spec

/-! ## d.pop(k), k a text that is there, all keys texts -/
noncomputable def cutK (kvs : List (D × D)) (x : Str) : List (D × D) := kvs.filter fun p => !decide (p.1 = .str x)
def dPopD : DMt := fun d ds S R => ∃ l ep kvs x v, d = .loc l ∧ ds = [.str x] ∧ S[l]? = some (.dct ep kvs) ∧ (∀ p ∈ kvs, ∃ y, p.1 = .str y) ∧ (D.str x, v) ∈ kvs ∧ ∀ ep', R v (S.set l (.dct ep' (cutK kvs x)))
section
variable {X : Cx} {ρ : List Addr} {H : Hp}
theorem txE_without {x : Str} : ∀ {kvs : List (D × D)} {qs : List (Str × Value)}, Paired (TxE X ρ H) kvs qs → Paired (TxE X ρ H) (cutK kvs x) (without qs x)
  | _, _, .nil => .nil
  | p :: kvs, q :: qs, .cons r t => by
    have ih := txE_without (x := x) t
    obtain ⟨r1, r2⟩ := id r
    unfold cutK without at ih ⊢
    by_cases h : q.1 = x
    · have h2 : p.1 = .str x := by rw [r1, h]
      simpa [h, h2] using ih
    · have h2 : ¬ p.1 = .str x := by rw [r1]; intro e; cases e; exact h rfl
      simpa [h, h2] using Paired.cons r ih
theorem txE_value {x : Str} {v : D} : ∀ {kvs : List (D × D)} {qs : List (Str × Value)}, Paired (TxE X ρ H) kvs qs → (kvs.map fun p => keyOf p.1).Nodup → (D.str x, v) ∈ kvs → ∃ u dv, valueAt qs x = some u ∧ VR X.K ρ H v dv ∧ RelV dv u
  | _, _, .nil, _, hm => by cases hm
  | p :: kvs, q :: qs, .cons r t, nd, hm => by
    obtain ⟨r1, dv, r2, r3⟩ := r
    rw [List.map_cons, List.nodup_cons] at nd
    rcases List.mem_cons.mp hm with e | hm
    · cases e
      have e : x = q.1 := by cases r1; rfl
      exact ⟨q.2, dv, by simp [valueAt, ← e], r2, r3⟩
    · have hne : q.1 ≠ x := fun e => nd.1 (by
        rw [r1, e]
        exact List.mem_map.mpr ⟨_, hm, rfl⟩)
      obtain ⟨u, dv2, g1, g2, g3⟩ := txE_value t nd.2 hm
      refine ⟨u, dv2, ?_, g2, g3⟩
      unfold valueAt at g1 ⊢
      rw [List.find?_cons_of_neg (by simpa using hne)]
      exact g1
theorem md_popD : MtR X "dict.pop" (rMD X dPopD) := by
  intro pins s σ H x xs v us Q I rx rs ⟨ρ, S, d, ds, R, W, r1, r2, ⟨l, ep, kvs, y, dv, e1, e2, h1, hk, hm, q⟩, p⟩
  subst e1 e2
  obtain ⟨a, h3, rfl⟩ := r1.loc_of
  cases (show v = Value.ref a from rx)
  have hO := W.obj l a _ h3 h1
  obtain ⟨qs, g1, g2, g3, g4⟩ := tx_dict I hO hk
  obtain ⟨es, ks, T⟩ := dat_of I hO
  obtain ⟨_, _, hnd, _⟩ := hO
  obtain ⟨xv, rfl, k1⟩ := r2.one_of
  cases k1.str_of
  cases rs with
  | @cons _ u _ _ r3 t =>
  cases t
  obtain ⟨t, rfl⟩ := (show ∃ t, u = Value.str y t from r3)
  obtain ⟨w, vv, w1, w2, w3⟩ := txE_value g4 hnd hm
  have hl : qs.length = kvs.length := by have := congrArg List.length (txE_nodup g4); simpa using this.symm
  have hi : (strKind X.prog X.w).is y (Value.str y t) = true := by
    show Value.isStrOf y (Value.str y t) = true
    simp [Value.isStrOf]
  refine call_meetsIn F.slot_dict_pop T.rw.ty F.entry_dict_pop (F.args_dict_pop_2 _ _) (PySem.meets_dict_pop_there (strKind X.prog X.w) a hi [] (.inl rfl) rfl) ⟨qs, w, g3, by rw [hl]; exact g2, w1, fun h' hd hs => ?_⟩
  obtain ⟨o, es', ep', ho, hx, hdat, hks, hpr, _⟩ := hd
  have hob : DictObj a es' ep' h' := ⟨o, ho, hx, hdat⟩
  have vx : VX ρ H ρ (upd H a (.ext (DictObj a es' ep'))) := vx_dict T.ext
  have nd' : ((cutK kvs y).map fun p => keyOf p.1).Nodup := (List.filter_sublist.map _).nodup hnd
  have hO' : OR X.w X.K X.mg ρ (upd H a (.ext (DictObj a es' ep'))) a (.dct ep' (cutK kvs y)) := by
    refine ⟨g1, Nat.le_trans (List.length_filter_le _ _) g2, nd', es', upd_same, ?_⟩
    refine Paired.mapP (tx_ent (txE_without g4) hpr fun e he => ?_) fun p e z => z.vx vx
    exact hks e (Array.mem_toList_iff.mp he)
  exact ⟨vv, _, T.write I hob hs, w3, p _ _ (q ep') ρ _ _ (ext_write (List.mem_of_getElem? h3)) (W.write h3 hO') (VR.vx vx _ _ w2)⟩
end
theorem dPopD_loc {l ep : Nat} {kvs : List (D × D)} {x : Str} {v : D} {S : Sto} {R : DQ} (h1 : S[l]? = some (.dct ep kvs)) (h2 : ∀ p ∈ kvs, ∃ y, p.1 = .str y) (h3 : (D.str x, v) ∈ kvs) (q : ∀ ep', R v (S.set l (.dct ep' (cutK kvs x)))) : dPopD (.loc l) [.str x] S R := ⟨l, ep, kvs, x, v, rfl, rfl, h1, h2, h3, q⟩
end Dl

namespace PySem.SeqAt
open AutoSeq1 (wpAny_loadPart')
open MeetsSeq MeetsSeq2 MeetsSeq3

/-! ## xs != ys, lists of lists and dicts that are the same place by place -/
/-- the two are the same, in this program and world -/
def SameIn (P : Program) (W : World) (A : Around) (s : Shared) (u v : Value) : Prop := ∀ (E : Value → Shared → Prop) (Q : Bool → Shared → Prop), Q true s → wpAny (model P W) A (eqBool u v) Q E s
theorem SameIn.refs {P : Program} {W : World} {A : Around} {s : Shared} {a b : Addr} (h : ∀ (E Q : Value → Shared → Prop), Q (.bool true) s → wpAny (model P W) A (richCompare .Eq (.ref a) (.ref b)) Q E s) : SameIn P W A s (.ref a) (.ref b) := fun E Q q => by
  unfold eqBool
  refine wpAny_holding (wpAny_ite_split (fun _ => wpAny_bind (wpAny_rule (wpAny_pure q))) fun _ => wpAny_bind (h E _ (wpAny_truthy_bool q)))
theorem SameIn.at_ {P : Program} {W : World} {A : Around} {s : Shared} {u v : Value} (h : EqAt A s u v true) : SameIn P W A s u v := fun E Q q => h P W E Q q
theorem same_loop (P : Program) (W : World) (a b : Addr) (us vs : Array Value) (n1 n2 : Nat) (c1 c2 : Option Addr) (z1 z2 : Array (Option Value)) (hs : us.size = vs.size) : ∀ (k i : Nat), us.size - i = k →
    MeetsIn P W (Builtin.«list.__eq__.loop» ⟨[.ref a, .ref b, rawInt i, rawInt 3], []⟩) (fun A R s => s.heap.get? a = some { cls := .type "list", dict := c1, data := .seq us n1, slots := z1 } ∧ s.heap.get? b = some { cls := .type "list", dict := c2, data := .seq vs n2, slots := z2 } ∧
      (∀ j (q1 : j < us.size) (q2 : j < vs.size), SameIn P W A.in1 s us[j] vs[j]) ∧ R (.ok (.ret (.bool false))) s)
  | 0, i, hk => by
    rintro A R s ⟨ga, gb, he, fin⟩
    obtain ⟨hp, g, d, tk, os⟩ := s
    wp_walk using wpAny_loadPart' ga, wpAny_loadPart' gb
    have e1 : us[((i : Nat) : Int).toNat]? = none := by simp; omega
    have e2 : vs[((i : Nat) : Int).toNat]? = none := by simp; omega
    rw [e1, e2]
    wp_walk using wpAny_loadPart' ga, wpAny_loadPart' gb
    show R (.ok (.ret (.bool (us.size != vs.size)))) _
    rw [hs]
    simpa using fin
  | k + 1, i, hk => by
    rintro A R s ⟨ga, gb, he, fin⟩
    obtain ⟨hp, g, d, tk, os⟩ := s
    wp_walk using wpAny_loadPart' ga, wpAny_loadPart' gb
    have l1 : i < us.size := by omega
    have l2 : i < vs.size := by omega
    have e1 : us[((i : Nat) : Int).toNat]? = some us[i] := by simp [l1]
    have e2 : vs[((i : Nat) : Int).toNat]? = some vs[i] := by simp [l2]
    have e3 : ((i : Int) + 1) = ((i + 1 : Nat) : Int) := by push_cast; rfl
    rw [e1, e2]
    refine wpAny_bind (he i l1 l2 _ _ ?_)
    wp_walk
    rw [e3]
    refine ⟨plainId_quiet plain_eq_loop _, codeAny_builtin entry_eq_loop ?_⟩
    rw [Around.under_plainId plain_eq_loop _]
    exact same_loop P W a b us vs n1 n2 c1 c2 z1 z2 hs k (i + 1) (by omega) A R _ ⟨ga, gb, he, fin⟩
theorem same_lists (P : Program) (W : World) (a b : Addr) (us vs : Array Value) (n1 n2 : Nat) (c1 c2 : Option Addr) (z1 z2 : Array (Option Value)) (hs : us.size = vs.size) :
    MeetsIn P W (Builtin.«list.__ne__» ⟨[.ref a, .ref b], []⟩) (fun A R s => s.heap.get? a = some { cls := .type "list", dict := c1, data := .seq us n1, slots := z1 } ∧ s.heap.get? b = some { cls := .type "list", dict := c2, data := .seq vs n2, slots := z2 } ∧
      (∀ j (q1 : j < us.size) (q2 : j < vs.size), SameIn P W A.in1 s us[j] vs[j]) ∧ R (.ok (.ret (.bool false))) s) := by
  rintro A R s ⟨ga, gb, he, fin⟩
  obtain ⟨hp, g, d, tk, os⟩ := s
  have sub := AutoSeq1.sub_list_list
  have hne : ¬ (us.size != vs.size) = true := by simp [hs]
  wp_walk using wpAny_loadPart' ga, wpAny_loadPart' gb
  refine ⟨plainId_quiet plain_eq_loop _, codeAny_builtin entry_eq_loop ?_⟩
  rw [Around.under_plainId plain_eq_loop _]
  exact same_loop P W a b us vs n1 n2 c1 c2 z1 z2 hs _ 0 rfl A R _ ⟨ga, gb, he, fin⟩
theorem ne_lists_in {P : Program} {W : World} {A : Around} {s : Shared} {a b : Addr} {us vs : Array Value} {E Q : Value → Shared → Prop} (hl : s.heap.IsList a us) (hb : s.heap.IsList b vs) (hs : us.size = vs.size) (hu : A.units < cLine)
    (he : ∀ j (q1 : j < us.size) (q2 : j < vs.size), SameIn P W A.in1 s us[j] vs[j]) (q : Q (.bool false) s) : wpAny (model P W) A (richCompare .NotEq (.ref a) (.ref b)) Q E s := by
  obtain ⟨⟨k1, d1, t1, z1⟩, o1, rfl, n1, rfl⟩ := id hl
  obtain ⟨⟨k2, d2, t2, z2⟩, o2, rfl, n2, rfl⟩ := id hb
  have hin : (wants (fun v s' => v ≠ Value.notImplemented ∧ Q v s') E) (.ok (.ret (.bool false))) s := show Value.bool false ≠ Value.notImplemented ∧ Q (.bool false) s from ⟨(fun x => nomatch x), q⟩
  exact wpAny_richCompare_same_room (op := .NotEq) ⟨_, o1, rfl⟩ ⟨_, o2, rfl⟩ F.slot_list_ne (call_meetsIn F.slot_list_ne ⟨_, o1, rfl⟩ F.entry_list_ne (F.args_list_ne_2 _ _) (same_lists P W a b us vs n1 n2 d1 d2 z1 z2 hs) ⟨o1, o2, he, hin⟩) hu
end PySem.SeqAt
namespace Dl
open PySem L2 PyProof.Rows PySem.Spec
/-- two lists, or two dicts, that are the same -/
def sameD (S : Sto) (d1 d2 : D) : Prop := ∃ i j, d1 = .loc i ∧ d2 = .loc j ∧ ((∃ e1 e2 k1 k2, S[i]? = some (.dct e1 k1) ∧ S[j]? = some (.dct e2 k2) ∧ eqK k1 k2 = some true) ∨ ∃ xs, S[i]? = some (.lst xs) ∧ S[j]? = some (.lst xs) ∧ plainsD 100 xs = true)
def dNeP : DOp := fun d1 d2 S R => ∃ i j xs ys, d1 = .loc i ∧ d2 = .loc j ∧ S[i]? = some (.lst xs) ∧ S[j]? = some (.lst ys) ∧ All2 (sameD S) xs ys ∧ R (.bl false) S
section
variable {X : Cx} {pins : List (Addr × Obj)} {σ : L2.St} {H : Hp} {s : Shared} {ρ : List Addr} {S : Sto}
theorem sameD_in {A : Around} (hu : A.units + 142 < cLine) (I : L2.Inv X pins σ H s) (W : XW X ρ S H) {d1 d2 : D} {v1 v2 : V} {u1 u2 : Value} (h : sameD S d1 d2) (r1 : VR X.K ρ H d1 v1) (r2 : VR X.K ρ H d2 v2) (q1 : RelV v1 u1) (q2 : RelV v2 u2) : SeqAt.SameIn X.prog X.w A s u1 u2 := by
  obtain ⟨i, j, rfl, rfl, h⟩ := h
  obtain ⟨a, c1, rfl⟩ := r1.loc_of
  obtain ⟨b, c2, rfl⟩ := r2.loc_of
  cases (show u1 = Value.ref a from q1)
  cases (show u2 = Value.ref b from q2)
  rcases h with ⟨e1, e2, k1, k2, h1, h2, h3⟩ | ⟨xs, h1, h2, h3⟩
  · obtain ⟨es1, ks1, T1⟩ := dat_of I (W.obj i a _ c1 h1)
    obtain ⟨es2, ks2, T2⟩ := dat_of I (W.obj j b _ c2 h2)
    refine .refs fun E Q q => nd_rc .Eq true (by omega) I T1 T2 h3 (.inl ⟨rfl, rfl⟩) (by simpa using q)
  · obtain ⟨vs, g1, g2⟩ := W.obj i a _ c1 h1
    obtain ⟨ws, g3, g4⟩ := W.obj j b _ c2 h2
    obtain ⟨its, rv, pl, hz⟩ := I.list (.inl (.inl g1))
    obtain ⟨its2, rv2, pl2, hz2⟩ := I.list (.inl (.inl g3))
    obtain ⟨k1, e1, _⟩ := keys_plain 100 xs h3
    have d1 := depth_plain h3 e1
    have := (rcAt_lists (A := A) pl.isList pl2.isList (by simpa using nested_of.go I xs k1 vs its e1 g2 rv) (by simpa using nested_of.go I xs k1 ws its2 e1 g4 rv2) (by omega)).1
    rw [beqAll_plain h3 h3 e1 e1] at this
    exact .refs fun E Q q => this X.prog X.w E Q (by simpa using q)
theorem sames_in {A : Around} (hu : A.units + 142 < cLine) (I : L2.Inv X pins σ H s) (W : XW X ρ S H) : ∀ {xs ys : List D} {vs ws : List V} {us zs : List Value}, All2 (sameD S) xs ys → VRs X.K ρ H xs vs → VRs X.K ρ H ys ws → Vals vs us → Vals ws zs → us.length = zs.length ∧ ∀ (j : Nat) (h1 : j < us.length) (h2 : j < zs.length), SeqAt.SameIn X.prog X.w A s us[j] zs[j]
  | _, _, _, _, _, _, .nil, r1, r2, q1, q2 => by
    unfold VRs at r1 r2
    subst r1 r2
    cases q1
    cases q2
    exact ⟨rfl, fun j h => by simp at h⟩
  | x :: xs, y :: ys, _, _, _, _, .cons h t, r1, r2, q1, q2 => by
    unfold VRs at r1 r2
    obtain ⟨v, vs, rfl, a1, a2⟩ := r1
    obtain ⟨w, ws, rfl, b1, b2⟩ := r2
    cases q1 with
    | cons p1 t1 =>
    cases q2 with
    | cons p2 t2 =>
    obtain ⟨g1, g2⟩ := sames_in hu I W t a2 b2 t1 t2
    refine ⟨by simp [g1], fun j h1 h2 => ?_⟩
    cases j with
    | zero => exact sameD_in hu I W h a1 b1 p1 p2
    | succ j => exact g2 j (by simpa using h1) (by simpa using h2)
end
section
variable {X : Cx}
theorem od_neP (hu : X.A.units + 150 < cLine) : OpR X (compareOp .NotEq) (rD X dNeP) := fun pins s σ H x y v u Q I rx ry ⟨ρ, S, d1, d2, R, W, r1, r2, ⟨i, j, xs, ys, e1, e2, h1, h2, h3, q⟩, p⟩ => by
  subst e1 e2
  obtain ⟨a, c1, rfl⟩ := r1.loc_of
  obtain ⟨b, c2, rfl⟩ := r2.loc_of
  cases (show v = Value.ref a from rx)
  cases (show u = Value.ref b from ry)
  obtain ⟨vs, g1, g2⟩ := W.obj i a _ c1 h1
  obtain ⟨ws, g3, g4⟩ := W.obj j b _ c2 h2
  obtain ⟨its, rv, pl, hz⟩ := I.list (.inl (.inl g1))
  obtain ⟨its2, rv2, pl2, hz2⟩ := I.list (.inl (.inl g3))
  obtain ⟨f1, f2⟩ := sames_in (A := X.A.in1) (by show X.A.units + 1 + 142 < _; omega) I W h3 g2 g4 rv rv2
  have fin : EP X pins σ Q (.bool false) s := ⟨.bl false, H, I, rfl, p _ _ q ρ H _ (Ext.refl _ _) W .bl⟩
  show wpAny _ _ (richCompare .NotEq (.ref a) (.ref b)) _ _ _
  refine SeqAt.ne_lists_in pl.isList pl2.isList (by simpa using f1) (by omega) (fun j q1 q2 => ?_) fin
  have := f2 j (by simpa using q1) (by simpa using q2)
  simpa using this
end
theorem dNeP_loc {i j : Nat} {xs ys : List D} {S : Sto} {R : DQ} (h1 : S[i]? = some (.lst xs)) (h2 : S[j]? = some (.lst ys)) (h : All2 (sameD S) xs ys) (q : R (.bl false) S) : dNeP (.loc i) (.loc j) S R := ⟨i, j, xs, ys, rfl, rfl, h1, h2, h, q⟩
end Dl

namespace L2
open PySem PySem.Spec PyProof.Rows HT

/-! ## a tuple turned about: t[::-1] -/
theorem back_ends (n : Nat) : Builtin.Slice.sliceAdjust none none (-1) (n : Int) = ((n : Int) - 1, -1) := by
  unfold Builtin.Slice.sliceAdjust
  simp
theorem back_many (n : Nat) : Builtin.Slice.slicePlaces ((n : Int) - 1) (-1) (-1) = n := by
  unfold Builtin.Slice.slicePlaces
  simp
  try omega
section
variable {prog : Program} {w : World} {A : Around} {E : Value → Shared → Prop} {s : Shared}
theorem back_applied {c : Addr} {n : Nat} {v : Value} {Q : Int × Int × Nat → Shared → Prop} (hs : s.heap.IsSliceOf c .none .none v) (pv : IsPart v (some (-1))) (q : Q ((n : Int) - 1, -1, n) s) : wpAny (model prog w) A (Builtin.Slice.sliceApplied (.ref c) (pure (n : Int))) Q E s := by
  obtain ⟨ob, ho, _, hd⟩ := id hs
  unfold Builtin.Slice.sliceApplied Builtin.Slice.sliceFields
  refine wpAny_bind (wpAny_bind (wpAny_field ho hd (x := .none) rfl (wpAny_bind (wpAny_field ho hd (x := .none) rfl (wpAny_bind (wpAny_field ho hd (x := v) rfl (wpAny_pure ?_)))))))
  refine wpAny_bind (slicePart_ pv ?_)
  show wpAny _ _ (if ((-1 : Int) == 0) = true then _ else _) _ _ s
  rw [if_neg (by decide)]
  refine wpAny_bind (slicePart_ .none (wpAny_bind (slicePart_ .none (wpAny_bind (wpAny_pure ?_)))))
  show wpAny _ _ (match Builtin.Slice.sliceAdjust none none (-1) (n : Int) with | (a, b) => pure (a, (-1 : Int), Builtin.Slice.slicePlaces a b (-1))) _ _ s
  rw [back_ends]
  show wpAny _ _ (pure ((n : Int) - 1, (-1 : Int), Builtin.Slice.slicePlaces ((n : Int) - 1) (-1) (-1))) _ _ s
  rw [back_many]
  exact wpAny_pure q
theorem fm_congr {α β : Type} {f g : α → Option β} : ∀ l : List α, (∀ a ∈ l, f a = g a) → l.filterMap f = l.filterMap g
  | [], _ => rfl
  | a :: l, h => by
    rw [List.filterMap_cons, List.filterMap_cons, h a List.mem_cons_self, fm_congr l fun b hb => h b (List.mem_cons_of_mem _ hb)]
theorem back_pick (xs : List Value) : (List.range xs.length).filterMap (fun (k : Nat) => xs.toArray[((xs.length : Int) - 1 + (k : Int) * (-1)).toNat]?) = xs.reverse := by
  have h1 : ∀ k ∈ List.range xs.length, (fun (k : Nat) => xs.toArray[((xs.length : Int) - 1 + (k : Int) * (-1)).toNat]?) k = (fun k => xs.reverse[k]?) k := by
    intro k hk
    have hk' : k < xs.length := List.mem_range.mp hk
    have e : ((xs.length : Int) - 1 + (k : Int) * (-1)).toNat = xs.length - 1 - k := by omega
    simp only [e]
    rw [List.getElem?_reverse hk']
    simp
  rw [fm_congr _ h1]
  have h2 : ∀ ys : List Value, (List.range ys.length).filterMap (fun k => ys[k]?) = ys := by
    intro ys
    induction ys with
    | nil => rfl
    | cons y ys ih =>
      rw [List.length_cons, List.range_succ_eq_map, List.filterMap_cons]
      simp only [List.getElem?_cons_zero]
      rw [List.filterMap_map]
      have e : ((fun k => (y :: ys)[k]?) ∘ Nat.succ) = fun k => ys[k]? := by
        funext k
        simp
      rw [e, ih]
  have := h2 xs.reverse
  rwa [List.length_reverse] at this
theorem back_get {t c : Addr} {xs : List Value} {v : Value} {Q : Value → Shared → Prop} (ht : IsTup s.heap t xs.toArray) (hs : s.heap.IsSliceOf c .none .none v) (pv : IsPart v (some (-1))) (hz : xs.length ≤ sizeLine)
    (q : Q (.ref s.heap.objs.size) { s with heap := s.heap.push { cls := .type "tuple", data := .seq xs.reverse.toArray } }) : wpAny (model prog w) A (getItem (.ref t) (.ref c)) Q E s := by
  have hk : sizeOk (.seq xs.reverse.toArray) := by
    show xs.reverse.toArray.size ≤ sizeLine
    rw [List.size_toArray, List.length_reverse]
    exact hz
  obtain ⟨ob, ho, hc, hd⟩ := id hs
  have ty : s.TypeIs (.ref c) "slice" := ⟨ob, ho, hc⟩
  unfold getItem
  try with_reducible refine wpAny_holding ?_
  first | refine wpAny_bind (wpAny_pure ?_) | skip
  refine wpAny_bind (wpAny_sequenceKey ht.typeIs (by decide) (wpAny_bind (wpAny_callSpecial?_slot (name := Str.ofString "__getitem__") ht.typeIs PyProof.Rows.slot_tuple_getitem (wpAny_call_entry PyProof.Rows.slot_tuple_getitem ht.typeIs entry_tuple_getitem ?_ (args_tuple_getitem _ _)))))
  show wpAny _ _ (Builtin.Tuple.tupleItemsOf (.ref t) >>= _) _ _ s
  refine wpAny_bind (tupleItemsOf_ ht (wpAny_bind (wpAny_typeOf ty ?_)))
  rw [if_pos (by decide)]
  refine wpAny_bind (back_applied hs pv ?_)
  have no : ¬ (((xs.toArray.size : Int) - 1 == 0 && (-1 : Int) == 1 && xs.toArray.size == xs.toArray.size) = true) := by
    intro z
    rw [Bool.and_eq_true, Bool.and_eq_true] at z
    exact absurd z.1.2 (by decide)
  show wpAny _ _ (if ((xs.toArray.size : Int) - 1 == 0 && (-1 : Int) == 1 && xs.toArray.size == xs.toArray.size) = true then _ else _) _ _ s
  rw [if_neg no]
  have ep : (List.range xs.toArray.size).filterMap (fun (k : Nat) => xs.toArray[((xs.toArray.size : Int) - 1 + (k : Int) * (-1)).toNat]?) = xs.reverse := by
    have := back_pick xs
    simpa only [List.size_toArray] using this
  rw [ep]
  first
    | exact wpAny_bind (m := Builtin.Tuple.tupleExact _) (wpAny_newObj_type (wpAny_pure ⟨_, rfl, wpAny_pure q⟩) hk)
    | exact wpAny_bind (wpAny_bind (m := Builtin.Tuple.tupleExact _) (wpAny_newObj_type (wpAny_pure ⟨_, rfl, wpAny_pure q⟩) hk))
    | exact wpAny_bind (wpAny_bind (m := Builtin.Tuple.tupleExact _) (wpAny_newObj_type (wpAny_pure (wpAny_pure ⟨_, rfl, wpAny_pure q⟩)) hk))
end
def tRevT (K : PySem.W.Frag) (te : TE) : TE := fun σ H Q => te σ H fun x H1 => ∃ a xs, x = .ref a ∧ SqT K H1 a xs ∧ ∀ p, H1 p = none → Q (.ref p) (upd H1 p (.tup xs.reverse))
theorem pe_revT {X : Cx} {e : Expr} {te : TE} {k : Nat} {q1 q2 q3 pos : Pos} (he : PE X e te) : PE X (.Subscript e (.Slice none none (some (.UnaryOp .USub (.Constant (.int 1) k q1) q2)) q3) pos) (tRevT X.K te) := by
  refine ⟨fun pins s σ H Q I h => Subscript_ (thn (he.run pins s σ H _ I h) fun v s1 ⟨x, H1, I1, r1, a, xs, ex, hx, fin⟩ => ?_)⟩
  subst ex
  cases r1
  have hst : PO X (some (.UnaryOp .USub (.Constant (.int 1) k q1) q2)) (tPart (tUn (rU fun i => .int (-i)) (tC (.int 1)))) := po_some (pe_un un_neg pe_int)
  refine wpAny_Slice (thn (po_none.run pins s1 σ H1 (fun o G => o = none ∧ G = H1) I1 ⟨rfl, rfl⟩) fun v2 s2 ⟨o2, G2, I2, p2, z2, y2⟩ => ?_)
  subst z2 y2
  refine thn (po_none.run pins s2 σ G2 (fun o G => o = none ∧ G = G2) I2 ⟨rfl, rfl⟩) fun v3 s3 ⟨o3, G3, I3, p3, z3, y3⟩ => ?_
  subst z3 y3
  refine thn (hst.run pins s3 σ G3 (fun o G => o = some (-1) ∧ G = G3) I3 ⟨1, rfl, -1, rfl, rfl, rfl⟩) fun v4 s4 ⟨o4, G4, I4, p4, z4, y4⟩ => ?_
  subst z4 y4
  have I5 : Inv X pins σ G4 { s4 with heap := s4.heap.push { cls := .type "slice", data := .fields #[v2, v3, v4] } } := I4.kept (t' := s4.toks) fun b ob q => Heap.get?_push_of_some _ q
  obtain ⟨its, r, ht, hz⟩ := I5.tuple hx
  have hl := r.length
  cases p2
  cases p3
  show wpAny (model X.prog X.w) X.A (subscriptTail e (.Slice none none (some (.UnaryOp .USub (.Constant (.int 1) k q1) q2)) q3) (.ref a) (.ref s4.heap.objs.size)) (EP X pins σ Q) X.xe { s4 with heap := s4.heap.push { cls := .type "slice", data := .fields #[.none, .none, v4] } }
  refine tail_any (ops := [.ref a, .ref s4.heap.objs.size]) ht.typeIs (PyProof.Rows.slot_tuple_getitem.lookup) ?_ (by with_unfolding_all rfl)
  refine back_get ht (Heap.IsSliceOf.new _ .none .none v4) p4 (by omega) ?_
  refine ⟨.ref _, _, I5.laid (t' := s4.toks) (o := .tup xs.reverse) (fun b ob q => Heap.get?_push_of_some _ q) (Nat.le_refl _) ?_, rfl, fin _ (I5.hok.fresh (Nat.le_refl _))⟩
  exact ⟨by rw [List.length_reverse]; exact hz, _, r.reverse, IsTup.new _ _⟩
end L2

namespace L2
open PySem PySem.Spec PyProof.Rows
open AutoSeq1 (wpAny_loadPart')

/-! ## a tuple once, or not at all -/
theorem once_mul (a : Addr) (xs : Array Value) (m : Nat) (d0 : Option Addr) (z : Array (Option Value)) (u : Tok) : Meets (Builtin.«tuple.__mul__» ⟨[.ref a, .int 1 u], []⟩) (fun _ R s => s.heap.get? a = some { cls := .type "tuple", dict := d0, data := .seq xs m, slots := z } ∧ R (.ok (.ret (.ref a))) s) :=
  .of_wp fun prog w A R s ⟨ho, q⟩ => by
    obtain ⟨hp, g, d, tk, os⟩ := s
    have ix := AutoSeq1.idx_int
    wp_walk using wpAny_loadPart' ho
    exact ⟨_, rfl, q⟩
theorem nought_mul (a : Addr) (xs : Array Value) (m : Nat) (d0 : Option Addr) (z : Array (Option Value)) (u : Tok) (hx : (xs.isEmpty || (0 : Int) == 1) = false) : Meets (Builtin.«tuple.__mul__» ⟨[.ref a, .int 0 u], []⟩) (fun _ R s => s.heap.get? a = some { cls := .type "tuple", dict := d0, data := .seq xs m, slots := z } ∧
    R (.ok (.ret (.ref s.heap.objs.size))) { s with heap := s.heap.push { cls := Value.type "tuple", data := Data.seq #[] }, toks := s.toks }) :=
  .of_wp fun prog w A R s ⟨ho, q⟩ => by
    obtain ⟨hp, g, d, tk, os⟩ := s
    have ix := AutoSeq1.idx_int
    wp_walk using wpAny_loadPart' ho
    refine wpAny_ite_false (decide_eq_false (by rw [hx]; exact Bool.false_ne_true)) ?_
    wp_walk using wpAny_loadPart' ho
    exact ⟨_, rfl, q⟩
/-- t * 1 is t, t * 0 is () -/
def rOnce (K : PySem.W.Frag) : R2 := fun x y H Q => ∃ a k xs, x = .ref a ∧ y = .int k ∧ SqT K H a xs ∧ xs ≠ [] ∧ ((k = 1 ∧ Q (.ref a) H) ∨ (k = 0 ∧ ∀ p, H p = none → Q (.ref p) (upd H p (.tup []))))
theorem op_once {X : Cx} : OpR X (binaryOp .Mult) (rOnce X.K) := by
  intro pins s σ H x y v u Q I rx ry h
  obtain ⟨a, k, xs, rfl, rfl, hT, hne, q⟩ := h
  cases rx
  obtain ⟨t, rfl⟩ := ry
  obtain ⟨its, r, ⟨⟨c, d0, da, z⟩, ho, hc, m, hd⟩, hs⟩ := I.tuple hT
  simp only at hc hd
  subst hc hd
  have hi : its.toArray.isEmpty = false := by
    cases its with
    | nil => exact absurd (List.eq_nil_of_length_eq_zero r.length) hne
    | cons _ _ => rfl
  have go : (wpAny (model X.prog X.w) X.A (call (.builtin "tuple.__mul__") [.ref a, .int k t]) (EP X pins σ Q) X.xe s) → wpAny (model X.prog X.w) X.A (binaryOp .Mult (.ref a) (.int k t)) (EP X pins σ Q) X.xe s := fun w => by
    refine wpAny_binaryOp_repeat_ref (T := "tuple") (U := "int") (by decide) ⟨_, ho, rfl⟩ (fun s' => typeIs_int s' k t) noFill_tuple_mul F.fills_int_mul F.slot_int_rmul repeat_tuple F.slot_int_index.lookup
      (call_meets F.slot_int_rmul (typeIs_int s k t) F.entry_int_rmul (F.args_int_rmul_2 _ _) (int_rmul_tuple k t a its.toArray m d0 z) ⟨ho, rfl, ⟨_, ho, rfl⟩, w⟩)
  rcases q with ⟨rfl, q⟩ | ⟨rfl, q⟩
  · exact go (call_meets F.slot_tuple_mul ⟨_, ho, rfl⟩ F.entry_tuple_mul (F.args_tuple_mul_2 _ _) (once_mul a its.toArray m d0 z t) ⟨ho, .ref a, H, I, rfl, q⟩)
  · refine go (call_meets F.slot_tuple_mul ⟨_, ho, rfl⟩ F.entry_tuple_mul (F.args_tuple_mul_2 _ _) (nought_mul a its.toArray m d0 z t (by rw [hi]; rfl)) ⟨ho, ?_⟩)
    refine ⟨.ref _, _, I.laid (t' := s.toks) (o := .tup []) (fun b ob e => Heap.get?_push_of_some _ e) (Nat.le_refl _) ?_, rfl, q _ (I.hok.fresh (Nat.le_refl _))⟩
    exact ⟨Nat.zero_le _, _, .nil, IsTup.new _ _⟩
end L2
namespace Dl
open PySem L2 PyProof.Rows PySem.Spec
section
variable {X : Cx} {e : Expr} {we : WE}
def dOnce : DOp := fun d1 d2 S R => ∃ xs k, d1 = .tup xs ∧ d2 = .int k ∧ xs ≠ [] ∧ ((k = 1 ∧ R (.tup xs) S) ∨ (k = 0 ∧ R (.tup []) S))
theorem od_once : OpR X (binaryOp .Mult) (rD X dOnce) := OpR.imp op_once fun x y H Q ⟨ρ, S, d1, d2, R, W, r1, r2, ⟨xs, k, e1, e2, h0, q⟩, p⟩ => by
  subst e1 e2
  unfold VR at r1
  obtain ⟨a, vs, rfl, h2, h3⟩ := r1
  have hl := h3.length
  refine ⟨a, k, vs, rfl, r2.int_of, h2.sq, fun e => h0 (by subst e; exact List.length_eq_zero_iff.mp (by simpa using hl.symm)), ?_⟩
  rcases q with ⟨rfl, q⟩ | ⟨rfl, q⟩
  · exact .inl ⟨rfl, p _ _ q ρ H _ (Ext.refl _ _) W (.tup h2 h3)⟩
  · exact .inr ⟨rfl, fun c hc => new_tup W .nil q p hc⟩
def dMulA : DOp := opOr dMulT dOnce
theorem od_mulA : OpR X (binaryOp .Mult) (rD X dMulA) := OpD.or od_mulT od_once
theorem dMulA_ap {xs : List D} {k : Int} {S : Sto} {R : DQ} (hx : xs ≠ []) (h0 : 0 ≤ k) (h1 : k ≤ 1000) (hl : xs.length ≤ 1000) (q : R (.tup (List.replicate k.toNat xs).flatten) S) : dMulA (.tup xs) (.int k) S R := by
  by_cases c0 : k = 0
  · subst c0
    exact .inr ⟨xs, 0, rfl, rfl, hx, .inr ⟨rfl, by simpa using q⟩⟩
  by_cases c1 : k = 1
  · subst c1
    exact .inr ⟨xs, 1, rfl, rfl, hx, .inl ⟨rfl, by simpa using q⟩⟩
  · exact .inl ⟨xs, k, rfl, rfl, hx, by omega, h1, hl, q⟩
/-- t[::-1] -/
def wRevT (we : WE) : WE := fun τ S R => we τ S fun d S1 => ∃ xs, d = .tup xs ∧ R (.tup xs.reverse) S1
theorem VRs.rev {K : PySem.W.Frag} {ρ : List Addr} {H : Hp} : ∀ {ds : List D} {vs : List V}, VRs K ρ H ds vs → VRs K ρ H ds.reverse vs.reverse
  | [], _, h => by
    unfold VRs at h
    subst h
    exact .nil
  | d :: ds, _, h => by
    unfold VRs at h
    obtain ⟨v, vs, rfl, h1, h2⟩ := h
    rw [List.reverse_cons, List.reverse_cons]
    exact h2.rev.append (.cons h1 .nil)
theorem de_revT {k : Nat} {q1 q2 q3 pos : Pos} (he : PE X e (dE X we)) : PE X (.Subscript e (.Slice none none (some (.UnaryOp .USub (.Constant (.int 1) k q1) q2)) q3) pos) (dE X (wRevT we)) :=
  PE.imp (pe_revT he) fun σ H Q ⟨ρ, τ, S, R, W, er, h, p⟩ => ⟨ρ, τ, S, _, W, er, h, fun d S1 ⟨xs, e1, h1⟩ ρ1 H1 v x1 W1 r => by
    subst e1
    unfold VR at r
    obtain ⟨a, vs, rfl, h2, h3⟩ := r
    exact ⟨a, vs, rfl, h2.sq, fun c hc => new_tup W1 (VRs.rev h3) h1 (p.ext W1 x1) hc⟩⟩
end
@[simp ↓] theorem wRevT_ap {we : WE} {τ : DEnv} {S : Sto} {R : DQ} : wRevT we τ S R = we τ S fun d S1 => ∃ xs, d = .tup xs ∧ R (.tup xs.reverse) S1 := rfl
/-- t == () -/
def dEqE : DOp := fun d1 d2 S R => ∃ xs, d1 = .tup xs ∧ d2 = .tup [] ∧ R (.bl xs.isEmpty) S
theorem od_eqE {X : Cx} (hu : X.A.units + 150 < cLine) : OpR X (compareOp .Eq) (rD X dEqE) := fun pins s σ H x y v u Q I rx ry ⟨ρ, S, d1, d2, R, W, r1, r2, ⟨xs, e1, e2, q⟩, p⟩ => by
  subst e1 e2
  unfold VR at r1 r2
  obtain ⟨a, vs, rfl, h2, h3⟩ := r1
  obtain ⟨b, ws, rfl, h4, h5⟩ := r2
  unfold VRs at h5
  subst h5
  cases (show v = Value.ref a from rx)
  cases (show u = Value.ref b from ry)
  obtain ⟨its, rv, t1, z1⟩ := I.tuple h2.sq
  obtain ⟨its2, rv2, t2, z2⟩ := I.tuple h4.sq
  cases rv2
  have hl := h3.length
  have hl2 := rv.length
  have rc := SeqAt.RcAt.tuples (A := X.A) (e := fun _ => true) t1 t2 (by omega) (fun j j1 j2 => absurd j2 (Nat.not_lt_zero j))
  have e : ((List.range (min its.toArray.size ([] : List Value).toArray.size)).all (fun _ => true) && its.toArray.size == ([] : List Value).toArray.size) = xs.isEmpty := by
    cases xs with
    | nil =>
      have : its = [] := List.eq_nil_of_length_eq_zero (by rw [← hl2, hl]; rfl)
      subst this
      rfl
    | cons x xs =>
      cases its with
      | nil => rw [hl] at hl2; cases hl2
      | cons _ _ => simp
  rw [e] at rc
  exact rc X.prog X.w _ _ ⟨.bl xs.isEmpty, H, I, by cases xs <;> rfl, p _ _ q ρ H _ (Ext.refl _ _) W .bl⟩
@[simp] theorem dEqE_ap {xs : List D} {S : Sto} {R : DQ} : dEqE (.tup xs) (.tup []) S R = R (.bl xs.isEmpty) S := by simp [dEqE]
end Dl

namespace Dl
open PySem L2 PyProof.Rows PySem.Spec

/-! ## objects of the program's own classes -/
def putA (f : Str) (v : D) : List (Str × D) → List (Str × D)
  | [] => [(f, v)]
  | (g, x) :: r => if g = f then (g, v) :: r else (g, x) :: putA f v r
section
variable {K : PySem.W.Frag} {ρ : List Addr} {H : Hp}
theorem fs_get {f : Str} {d : D} : ∀ {fs : List (Str × D)} {vfs : List (Str × V)}, Paired (fun p q => p.1 = q.1 ∧ VR K ρ H p.2 q.2) fs vfs → fs.lookup f = some d → ∃ v, vfs.lookup f = some v ∧ VR K ρ H d v
  | _, _, .nil, h => by cases h
  | (g, x) :: fs, (g', y) :: vfs, .cons ⟨e, r⟩ t, h => by
    have e' : g = g' := e
    subst e'
    rw [List.lookup_cons] at h ⊢
    cases hq : f == g with
    | true =>
      rw [hq] at h
      cases h
      exact ⟨y, rfl, r⟩
    | false =>
      rw [hq] at h
      exact fs_get t h
theorem fs_none {f : Str} : ∀ {fs : List (Str × D)} {vfs : List (Str × V)}, Paired (fun p q => p.1 = q.1 ∧ VR K ρ H p.2 q.2) fs vfs → fs.lookup f = none → vfs.lookup f = none
  | _, _, .nil, h => rfl
  | (g, x) :: fs, (g', y) :: vfs, .cons ⟨e, r⟩ t, h => by
    have e' : g = g' := e
    subst e'
    rw [List.lookup_cons] at h ⊢
    cases hq : f == g with
    | true => rw [hq] at h; cases h
    | false =>
      rw [hq] at h
      exact fs_none t h
theorem fs_put {f : Str} {d : D} {v : V} (r0 : VR K ρ H d v) : ∀ {fs : List (Str × D)} {vfs : List (Str × V)}, Paired (fun p q => p.1 = q.1 ∧ VR K ρ H p.2 q.2) fs vfs → Paired (fun p q => p.1 = q.1 ∧ VR K ρ H p.2 q.2) (putA f d fs) (putF f v vfs)
  | _, _, .nil => .cons ⟨rfl, r0⟩ .nil
  | (g, x) :: fs, (g', y) :: vfs, .cons ⟨e, r⟩ t => by
    have e' : g = g' := e
    subst e'
    unfold putA putF
    by_cases hq : g = f
    · rw [if_pos hq, if_pos hq]
      exact .cons ⟨rfl, r0⟩ t
    · rw [if_neg hq, if_neg hq]
      exact .cons ⟨rfl, r⟩ (fs_put r0 t)
end
theorem no_guard (a : Args) : (Code.builtin "type.__call__" a).guards = [] := by
  unfold Code.guards
  have : (Code.builtin "type.__call__" a).isGuard = false := by
    show guardIds.contains "type.__call__" = false
    decide +kernel
  rw [this]
  rfl
/-- what the module's class at the name cn is -/
def ClsD (K : PySem.W.Frag) (mg : Str → Option Value) (cn : Str) : Prop := ∀ C, mg cn = some (.ref C) → Cls K C
def NoAtD (K : PySem.W.Frag) (mg : Str → Option Value) (cn f : Str) : Prop := ∀ C, mg cn = some (.ref C) → NoAttr K C f
def wFld (cn f : Str) (we : WE) : WE := fun τ S R => we τ S fun d S1 => ∃ l fs v, d = .loc l ∧ S1[l]? = some (.ins cn fs) ∧ fs.lookup f = some v ∧ R v S1
def wFldS (cn f : Str) (wv wo : WE) : WS := fun R τ S => wv τ S fun y S1 => wo τ S1 fun d S2 => ∃ l fs, d = .loc l ∧ S2[l]? = some (.ins cn fs) ∧ fs.length < 1000 ∧ R.nx τ (S2.set l (.ins cn (putA f y fs)))
def wFldA (cn f : Str) (wo wv : WE) (op : DOp) : WS := fun R τ S => wo τ S fun d S1 => ∃ l fs v, d = .loc l ∧ S1[l]? = some (.ins cn fs) ∧ fs.lookup f = some v ∧ wv τ S1 fun y S2 => op v y S2 fun z S3 => ∃ fs', S3[l]? = some (.ins cn fs') ∧ fs'.length < 1000 ∧ R.nx τ (S3.set l (.ins cn (putA f z fs')))
section
variable {X : Cx} {cn f : Str} {e o value : Expr} {pos pos' tpos : Pos} {we wo wv : WE}
theorem write_ins {ρ : List Addr} {S : Sto} {H : Hp} {l : Nat} {a C dx : Addr} {fs : List (Str × D)} {vfs vfs' : List (Str × V)} (W : XW X ρ S H) (h1 : ρ[l]? = some a) (h2 : H a = some (.ins C dx vfs)) (hm : X.mg cn = some (.ref C)) (r : Paired (fun p q => p.1 = q.1 ∧ VR X.K ρ H p.2 q.2) fs vfs') :
    Ext ρ H ρ (upd H a (.ins C dx vfs')) ∧ XW X ρ (S.set l (.ins cn fs)) (upd H a (.ins C dx vfs')) := by
  have vx : VX ρ H ρ (upd H a (.ins C dx vfs')) := vx_upd h2 (fun vs q => by cases q) (fun x y q => by cases q)
  exact ⟨ext_write (List.mem_of_getElem? h1), W.write h1 ⟨C, dx, vfs', upd_same, hm, Paired.mapP r fun p q z => ⟨z.1, VR.vx vx _ _ z.2⟩⟩⟩
theorem de_fld (c : ClsD X.K X.mg cn) (n : NoAtD X.K X.mg cn f) (he : PE X e (dE X we)) (hb : attributeBase e f X.env (eval e X.env) = eval e X.env := by rfl) : PE X (.Attribute e f pos) (dE X (wFld cn f we)) :=
  PE.imp (pe_fld he hb) fun σ H Q ⟨ρ, τ, S, R, W, er, h, p⟩ => ⟨ρ, τ, S, _, W, er, h, fun d S1 ⟨l, fs, v, e1, e2, e3, h1⟩ ρ1 H1 x x1 W1 r => by
    subst e1
    obtain ⟨a, ha, rfl⟩ := r.loc_of
    obtain ⟨C, dx, vfs, h2, h3, h4⟩ := W1.obj l a _ ha e2
    obtain ⟨v', k1, k2⟩ := fs_get h4 e3
    exact ⟨a, C, dx, vfs, v', rfl, h2, c C h3, n C h3, k1, p _ _ h1 ρ1 H1 v' x1 W1 k2⟩⟩
theorem ds_fld (c : ClsD X.K X.mg cn) (n : NoAtD X.K X.mg cn f) (hv : PE X value (dE X wv)) (ho : PE X o (dE X wo)) (hs : swapsWith value (some (.Attribute o f pos')) pos.line X.env = pure false := by rfl) :
    PS X (.Assign [.Attribute o f pos'] value pos) (dS X (wFldS cn f wv wo)) :=
  PS.imp (ps_fld ho hv hs) fun D σ H ⟨ρ, τ, S, R, W, er, h, p1, p2, p3, p4⟩ => ⟨ρ, τ, S, _, W, er, h, fun y S1 h1 ρ1 H1 yv x1 W1 ry => ⟨ρ1, τ, S1, _, W1, er.ext W.sep x1, h1, fun d S2 ⟨l, fs, e1, e2, e3, h2⟩ ρ2 H2 x x2 W2 r => by
    subst e1
    obtain ⟨a, ha, rfl⟩ := r.loc_of
    obtain ⟨C, dx, vfs, g2, g3, g4⟩ := W2.obj l a _ ha e2
    obtain ⟨x3, W3⟩ := write_ins (fs := putA f y fs) W2 ha g2 g3 (fs_put (ry.ext W1.sep x2) g4)
    exact ⟨a, C, dx, vfs, rfl, g2, c C g3, n C g3, by rw [← g4.length]; exact e3, ((p1.ext W1 x1).ext W2 x2) _ _ h2 ρ2 _ σ x3 W3 (((er.ext W.sep x1).ext W1.sep x2).ext W2.sep x3)⟩⟩⟩
theorem ds_fldA {op : Operator} {ip : DOp} (c : ClsD X.K X.mg cn) (n : NoAtD X.K X.mg cn f) (ho : PE X o (dE X wo)) (hv : PE X value (dE X wv)) (hp : PIp X op (rD X ip)) : PS X (.AugAssign (.Attribute o f tpos) op value pos) (dS X (wFldA cn f wo wv ip)) :=
  PS.imp (ps_fldaug ho hv hp) fun D σ H ⟨ρ, τ, S, R, W, er, h, p1, p2, p3, p4⟩ => ⟨ρ, τ, S, _, W, er, h, fun d S1 ⟨l, fs, v, e1, e2, e3, h1⟩ ρ1 H1 x x1 W1 r => by
    subst e1
    obtain ⟨a, ha, rfl⟩ := r.loc_of
    obtain ⟨C, dx, vfs, h2, h3, h4⟩ := W1.obj l a _ ha e2
    obtain ⟨v', k1, k2⟩ := fs_get h4 e3
    refine ⟨a, C, dx, vfs, v', rfl, h2, c C h3, n C h3, k1, ρ1, τ, S1, _, W1, er.ext W.sep x1, h1, fun y S2 q2 ρ2 H2 yv x2 W2 r2 => ⟨ρ2, S2, v, y, _, W2, k2.ext W1.sep x2, r2, q2, fun z S3 ⟨fs', e4, e5, q3⟩ ρ3 H3 zv x3 W3 r3 => ?_⟩⟩
    have ha3 := x3.get (x2.get ha)
    obtain ⟨C', dx', vfs', g2, g3, g4⟩ := W3.obj l a _ ha3 e4
    cases h3.symm.trans g3
    obtain ⟨x4, W4⟩ := write_ins (fs := putA f z fs') W3 ha3 g2 g3 (fs_put r3 g4)
    exact ⟨dx', vfs', g2, by rw [← g4.length]; exact e5, (((p1.ext W1 x1).ext W2 x2).ext W3 x3) _ _ q3 ρ3 _ σ x4 W4 ((((er.ext W.sep x1).ext W1.sep x2).ext W2.sep x3).ext W3.sep x4)⟩⟩
end
/-- a method, an __init__ of the module's class at the name cn keeps its promise -/
structure MeD (P : Program) (w : World) (K : PySem.W.Frag) (mg : Str → Option Value) (base : Heap) (k : Nat) (cn m : Str) (sp : DSp) : Prop where
  ex : ∃ C f fd ps, FnG P w K mg base CX0 k f fd ps (spD w K mg sp) ∧ mg cn = some (.ref C) ∧ Cls K C ∧ Meth K C m f ∧ Binds K fd ps []
structure InD (P : Program) (w : World) (K : PySem.W.Frag) (mg : Str → Option Value) (base : Heap) (k : Nat) (cn : Str) (sp : DSp) : Prop where
  ex : ∃ C f fd ps, FnG P w K mg base CX0 k f fd ps (spD w K mg sp) ∧ mg cn = some (.ref C) ∧ Mk K C f ∧ Binds K fd ps []
theorem MeD.mono {P : Program} {w : World} {K : PySem.W.Frag} {mg : Str → Option Value} {base : Heap} {j k : Nat} {cn m : Str} {sp : DSp} (F : MeD P w K mg base j cn m sp) (h : j ≤ k) : MeD P w K mg base k cn m sp :=
  let ⟨C, f, fd, ps, g, r⟩ := F.ex; ⟨C, f, fd, ps, g.mono h, r⟩
theorem InD.mono {P : Program} {w : World} {K : PySem.W.Frag} {mg : Str → Option Value} {base : Heap} {j k : Nat} {cn : Str} {sp : DSp} (F : InD P w K mg base j cn sp) (h : j ≤ k) : InD P w K mg base k cn sp :=
  let ⟨C, f, fd, ps, g, r⟩ := F.ex; ⟨C, f, fd, ps, g.mono h, r⟩
def wMeth (cn m : Str) (sp : DSp) (wo : WE) (wr : WA) : WE := fun τ S R => wo τ S fun d S1 => (∃ l fs, d = .loc l ∧ S1[l]? = some (.ins cn fs) ∧ fs.lookup m = none) ∧ wr τ S1 fun ds S2 => sp (d :: ds) S2 R
def wMeth0 (cn m : Str) (sp : DSp) (wo : WE) : WE := fun τ S R => wo τ S fun d S1 => (∃ l fs, d = .loc l ∧ S1[l]? = some (.ins cn fs) ∧ fs.lookup m = none) ∧ sp [d] S1 R
def wMake (cn : Str) (sp : DSp) (wr : WA) : WE := fun τ S R => wr τ S fun ds S1 => sp (.loc S1.length :: ds) (S1 ++ [.ins cn []]) fun d S2 => d = .non ∧ R (.loc S1.length) S2
section
variable {X : Cx} {cn m : Str} {k : Nat} {sp : DSp} {e o : Expr} {es : List Expr} {pos apos p : Pos} {wo : WE} {wr : WA}
theorem de_meth {pl : Sem Bool} (F : MeD X.prog X.w X.K X.mg X.base k cn m sp) (hr : RoomG k X.A) (ho : PE X o (dE X wo)) (ha : PA X (e :: es) (dA X wr))
    (hst : starEach (e :: es) X.env = (false, eval e X.env) :: starEach es X.env := by rfl) (hpl : (backTo pos (starEach es X.env)).any (·.1) = false := by rfl)
    (ht : eval (.Call (.Attribute o m apos) (e :: es) [] pos) X.env = (do
      let ov ← eval o X.env
      standAt apos.atName
      let (f, first) ← holding [ov] (getMethod ov m pl)
      callWith pos f first (backTo pos (starEach (e :: es) X.env)) (backToKw pos (keywordEach [] X.env))) := by rfl) :
    PE X (.Call (.Attribute o m apos) (e :: es) [] pos) (dE X (wMeth cn m sp wo wr)) := by
  obtain ⟨C, f, fd, ps, g1, g2, g3, g4, g5⟩ := F.ex
  refine ⟨fun pins s σ H Q I ⟨ρ, τ, S, R, W, er, h, pe⟩ => ?_⟩
  refine PySem.W.methodCall_KW (pl := pl) (thn (ho.run pins s σ H (fun x H1 => ∃ ρ1 S1 d a dx vfs, x = .ref a ∧ H1 a = some (.ins C dx vfs) ∧ vfs.lookup m = none ∧ XW X ρ1 S1 H1 ∧ Ext ρ H ρ1 H1 ∧ VR X.K ρ1 H1 d x ∧ wr τ S1 fun ds S2 => sp (d :: ds) S2 R) I
    ⟨ρ, τ, S, _, W, er, h, fun d S1 ⟨⟨l, fs, e1, e2, e3⟩, h1⟩ ρ1 H1 x x1 W1 r => ?_⟩) fun u s1 ⟨x, H1, I1, rx, ρ1, S1, d, a, dx, vfs, ex, ea, el, W1, x1, rd, h1⟩ => ?_) ht
  · subst e1
    obtain ⟨a, hal, rfl⟩ := r.loc_of
    obtain ⟨C', dx, vfs, h2, h3, h4⟩ := W1.obj l a _ hal e2
    cases g2.symm.trans h3
    exact ⟨ρ1, S1, _, a, dx, vfs, rfl, h2, fs_none h4 e3, W1, x1, r, h1⟩
  · subst ex
    obtain rfl : u = Value.ref a := rx
    refine getmeth_ok I1 ea g3 g4 el ?_
    refine PySem.W.callWith_K (first := [.ref a]) (h₀ := X.base) I.ok.mod.kin g4.kp (thn (ha.run pos pins s1 σ H1 (fun vs H2 => spD X.w X.K X.mg sp (V.ref a :: vs) H2 Q fun _ _ _ => False) I1 ⟨ρ1, τ, S1, _, W1, er.ext W.sep x1, h1, fun ds S2 h2 ρ2 H2 vs x2 W2 r2 => ?_⟩) fun us s2 ⟨vs, H2, I2, r, q2⟩ => ⟨I2.kIn, ?_⟩) hst hpl
    · exact ⟨ρ2, S2, d :: ds, R, W2, .cons (rd.ext W1.sep x2) r2, h2, (pe.ext W1 x1).ext W2 x2⟩
    · exact run_fnG (us := .ref a :: us) (vs := .ref a :: vs) g1 hr g5 pass0 I2 (.cons rfl r) q2
theorem de_meth0 {pl : Sem Bool} (F : MeD X.prog X.w X.K X.mg X.base k cn m sp) (hr : RoomG k X.A) (ho : PE X o (dE X wo))
    (ht : eval (.Call (.Attribute o m apos) [] [] pos) X.env = (do
      let ov ← eval o X.env
      standAt apos.atName
      let (f, first) ← holding [ov] (getMethod ov m pl)
      callWith pos f first (backTo pos (starEach [] X.env)) (backToKw pos (keywordEach [] X.env))) := by rfl) :
    PE X (.Call (.Attribute o m apos) [] [] pos) (dE X (wMeth0 cn m sp wo)) := by
  obtain ⟨C, f, fd, ps, g1, g2, g3, g4, g5⟩ := F.ex
  refine ⟨fun pins s σ H Q I ⟨ρ, τ, S, R, W, er, h, pe⟩ => ?_⟩
  refine PySem.W.methodCall_KW (pl := pl) (thn (ho.run pins s σ H (fun x H1 => ∃ a dx vfs, x = .ref a ∧ H1 a = some (.ins C dx vfs) ∧ vfs.lookup m = none ∧ spD X.w X.K X.mg sp [x] H1 Q fun _ _ _ => False) I
    ⟨ρ, τ, S, _, W, er, h, fun d S1 ⟨⟨l, fs, e1, e2, e3⟩, h1⟩ ρ1 H1 x x1 W1 r => ?_⟩) fun u s1 ⟨x, H1, I1, rx, a, dx, vfs, ex, ea, el, q⟩ => ?_) ht
  · subst e1
    have r' := r
    obtain ⟨a, hal, rfl⟩ := r.loc_of
    obtain ⟨C', dx, vfs, h2, h3, h4⟩ := W1.obj l a _ hal e2
    cases g2.symm.trans h3
    exact ⟨a, dx, vfs, rfl, h2, fs_none h4 e3, ρ1, S1, [_], R, W1, .cons r' .nil, h1, pe.ext W1 x1⟩
  · subst ex
    obtain rfl : u = Value.ref a := rx
    refine getmeth_ok I1 ea g3 g4 el ?_
    exact PySem.W.callWith_K0 (first := [.ref a]) I1.kIn g4.kp (run_fnG (us := [.ref a]) (vs := [.ref a]) g1 hr g5 pass0 I1 (.cons rfl .nil) q)
/-- C(..) -/
theorem run_makeG {C f : Addr} {fd : FuncData} {ps : List Str} {pins : List (Addr × Obj)} {σ : L2.St} {ρ : List Addr} {S : Sto} {H : Hp} {s : Shared} {Q : VK} {R : DQ} {us : List Value} {vs : List V} {ds : List D} (M : Mk X.K C f) (hm : X.mg cn = some (.ref C))
    (F : FnG X.prog X.w X.K X.mg X.base CX0 k f fd ps (spD X.w X.K X.mg sp)) (hr : RoomG (k + 1) X.A) (hb : Binds X.K fd ps [])
    (I : L2.Inv X pins σ H s) (W : XW X ρ S H) (rd : VRs X.K ρ H ds vs) (r : Vals vs us) (h : sp (.loc S.length :: ds) (S ++ [.ins cn []]) fun d S2 => d = .non ∧ R (.loc S.length) S2) (pe : PassE X ρ H R Q) :
    wpAny (model X.prog X.w) X.A (call (.ref C) us) (EP X pins σ Q) X.xe s := by
  have n1 := I.hok.fresh (Nat.le_succ s.heap.objs.size)
  have n2 := I.hok.fresh (Nat.le_refl s.heap.objs.size)
  have ne : s.heap.objs.size ≠ s.heap.objs.size + 1 := Nat.ne_of_lt (Nat.lt_succ_self _)
  have hq : spD X.w X.K X.mg sp (V.ref (s.heap.objs.size + 1) :: vs) (upd (upd H s.heap.objs.size (.own (s.heap.objs.size + 1))) (s.heap.objs.size + 1) (.ins C s.heap.objs.size [])) (fun v H2 => v = .non ∧ Q (.ref (s.heap.objs.size + 1)) H2) fun _ _ _ => False := by
    have n3 : upd H s.heap.objs.size (.own (s.heap.objs.size + 1)) (s.heap.objs.size + 1) = none := by rw [upd_ne ne.symm]; exact n1
    have W1 : XW X ρ S (upd H s.heap.objs.size (.own (s.heap.objs.size + 1))) := W.laid n2
    have x1 : Ext ρ H ρ (upd H s.heap.objs.size (.own (s.heap.objs.size + 1))) := ext_new n2
    have x2 := ext_alloc (ρ := ρ) (u := .ins C s.heap.objs.size []) n3
    have W2 := W1.alloc (u := .ins C s.heap.objs.size []) (o := .ins cn []) n3 ⟨C, s.heap.objs.size, [], upd_same, hm, .nil⟩
    have x12 := x1.trans W1.sep x2
    refine ⟨_, _, _, _, W2, .cons ?_ (rd.ext W.sep x12), h, fun d S2 ⟨e, h2⟩ ρ2 H2 v x3 W3 r3 => ?_⟩
    · refine .loc ?_
      rw [← W.len]
      exact List.getElem?_concat_length ..
    · subst e
      have x13 := x12.trans W2.sep x3
      refine ⟨r3.non_of, pe _ _ h2 ρ2 H2 _ x13 W3 ?_⟩
      refine .loc (x3.get ?_)
      rw [← W.len]
      exact List.getElem?_concat_length ..
  have I2 := Inv.made (C := C) I
  have r2 : Vals (V.ref (s.heap.objs.size + 1) :: vs) (Value.ref (s.heap.objs.size + 1) :: us) := .cons rfl r
  have hl : (Value.ref (s.heap.objs.size + 1) :: us).length = ps.length := by
    have e := r2.length
    rw [F.len _ _ _ _ hq] at e
    exact e.symm
  have hb' := hb { s with heap := (s.heap.push PySem.W.emptyDict).push (PySem.W.instObj C s.heap.objs.size) } (Value.ref (s.heap.objs.size + 1) :: us) I2.kIn (by rw [List.append_nil]; exact hl)
  rw [List.append_nil] at hb'
  have hr' : RoomG k (X.A.under (.builtin "type.__call__" ⟨.ref C :: us, []⟩)) := ⟨hr.room.make C us [], by show pushGuards (Code.builtin "type.__call__" ⟨.ref C :: us, []⟩).guards X.A.guards = some []; rw [no_guard, hr.gd]; rfl⟩
  refine wpAny_call (make_map (f := f) I.kIn M.makes M.init (beq_iff_eq.mp M.fn) (codeAny_mono (F.run _ X.stack _ _ ⟨Value.ref (s.heap.objs.size + 1) :: us, []⟩ (Value.ref (s.heap.objs.size + 1) :: us) _ _ _ hr' (I2.env0.make C us []) hb' r2 hq) fun r s' hq' => ?_))
  cases r with
  | error e => exact False.elim hq'
  | ok fl =>
    cases fl with
    | ret u =>
      obtain ⟨v, H', I3, rv, ev, q3⟩ := I2.after hq'
      subst ev
      exact ⟨rv, ⟨V.ref (s.heap.objs.size + 1), H', I3, rfl, q3⟩⟩
    | next => exact False.elim hq'
    | brk => exact False.elim hq'
    | cont => exact False.elim hq'
theorem de_make (F : InD X.prog X.w X.K X.mg X.base k cn sp) (hr : RoomG (k + 1) X.A) (hg : Gl X cn) (ha : PA X (e :: es) (dA X wr)) (hdb : (cn == ("__debug__" : Str)) = false := by decide)
    (he : starEach (e :: es) X.env = (false, eval e X.env) :: starEach es X.env := by rfl) (hpl : (backTo pos (starEach es X.env)).any (·.1) = false := by rfl) : PE X (.Call (.Name cn p) (e :: es) [] pos) (dE X (wMake cn sp wr)) := by
  obtain ⟨C, f, fd, ps, g1, g2, g3, g4⟩ := F.ex
  refine ⟨fun pins s σ H Q I ⟨ρ, τ, S, R, W, er, h, pe⟩ => ?_⟩
  refine wpAny_Call_Name_kw (ld_glob I hg g2 ?_ hdb)
  refine PySem.W.callWith_K (h₀ := X.base) I.ok.mod.kin g3.kp (thn (ha.run pos pins s σ H (fun vs H1 => ∃ ρ1 S1 ds, XW X ρ1 S1 H1 ∧ Ext ρ H ρ1 H1 ∧ VRs X.K ρ1 H1 ds vs ∧ sp (.loc S1.length :: ds) (S1 ++ [.ins cn []]) fun d S2 => d = .non ∧ R (.loc S1.length) S2) I
    ⟨ρ, τ, S, _, W, er, h, fun ds S1 h1 ρ1 H1 vs x1 W1 r1 => ⟨ρ1, S1, ds, W1, x1, r1, h1⟩⟩) fun us s1 ⟨vs, H1, I1, r, ρ1, S1, ds, W1, x1, r1, h1⟩ => ⟨I1.kIn, ?_⟩) he hpl
  exact run_makeG g3 g2 g1 hr g4 I1 W1 r1 r h1 (pe.ext W1 x1)
theorem de_make0 (F : InD X.prog X.w X.K X.mg X.base k cn sp) (hr : RoomG (k + 1) X.A) (hg : Gl X cn) (hdb : (cn == ("__debug__" : Str)) = false := by decide) : PE X (.Call (.Name cn p) [] [] pos) (dE X (wMake cn sp wNil)) := by
  obtain ⟨C, f, fd, ps, g1, g2, g3, g4⟩ := F.ex
  refine ⟨fun pins s σ H Q I ⟨ρ, τ, S, R, W, er, h, pe⟩ => ?_⟩
  refine wpAny_Call_Name_kw (ld_glob I hg g2 ?_ hdb)
  exact PySem.W.callWith_K0 I.kIn g3.kp (run_makeG (us := []) g3 g2 g1 hr g4 I W .nil .nil h pe)
end
theorem me_mk {P : Program} {w : World} {K : PySem.W.Frag} {mg : Str → Option Value} {base : Heap} {cn x qual : Str} {st : Stmt} {C f : Addr} {fd : FuncData} {N ps : List Str} {k : Nat} {sp : DSp} {ws : WS} (F : Fun K x qual st f fd) (Sc : FnScope N ps (defScope st))
    (hC : mg cn = some (.ref C)) (cl : Cls K C) (hm : Meth K C x f) (hb : Binds K fd ps []) (hps : ps.length ≤ N.length) (hlen : ∀ ds S R, sp ds S R → ds.length = ps.length)
    (body : ∀ (cdv : Value) (A : Around) (outer : List Env) (s : Shared) (H : Hp) (E : XK), RoomG k (A.deeper (envOfC qual (defScope st) s.heap.objs.size f cdv)) →
      PSs (cxOf CX0 P w K mg base N qual (defScope st) f cdv A outer s H E).nox (defBody st) (dS (cxOf CX0 P w K mg base N qual (defScope st) f cdv A outer s H E).nox ws))
    (sem : ∀ ds S R, sp ds S R → ws (endsD R) (startD N.length ds) S) : MeD P w K mg base (k + 1) cn x sp := ⟨C, f, fd, ps, fn_ok F Sc hps hlen body sem, hC, cl, hm, hb⟩
theorem in_mk {P : Program} {w : World} {K : PySem.W.Frag} {mg : Str → Option Value} {base : Heap} {cn qual : Str} {st : Stmt} {C f : Addr} {fd : FuncData} {N ps : List Str} {k : Nat} {sp : DSp} {ws : WS} (F : Fun K "__init__" qual st f fd) (Sc : FnScope N ps (defScope st))
    (hC : mg cn = some (.ref C)) (hm : Mk K C f) (hb : Binds K fd ps []) (hps : ps.length ≤ N.length) (hlen : ∀ ds S R, sp ds S R → ds.length = ps.length)
    (body : ∀ (cdv : Value) (A : Around) (outer : List Env) (s : Shared) (H : Hp) (E : XK), RoomG k (A.deeper (envOfC qual (defScope st) s.heap.objs.size f cdv)) →
      PSs (cxOf CX0 P w K mg base N qual (defScope st) f cdv A outer s H E).nox (defBody st) (dS (cxOf CX0 P w K mg base N qual (defScope st) f cdv A outer s H E).nox ws))
    (sem : ∀ ds S R, sp ds S R → ws (endsD R) (startD N.length ds) S) : InD P w K mg base (k + 1) cn sp := ⟨C, f, fd, ps, fn_ok F Sc hps hlen body sem, hC, hm, hb⟩
section
variable {τ : DEnv} {S : Sto} {R : DQ} {T : DEnds} {cn f : Str} {we wo wv : WE} {wr : WA} {op : DOp} {sp : DSp}
@[simp ↓] theorem wFld_ap : wFld cn f we τ S R = we τ S fun d S1 => ∃ l fs v, d = .loc l ∧ S1[l]? = some (.ins cn fs) ∧ fs.lookup f = some v ∧ R v S1 := rfl
@[simp ↓] theorem wFldS_ap : wFldS cn f wv wo T τ S = wv τ S fun y S1 => wo τ S1 fun d S2 => ∃ l fs, d = .loc l ∧ S2[l]? = some (.ins cn fs) ∧ fs.length < 1000 ∧ T.nx τ (S2.set l (.ins cn (putA f y fs))) := rfl
@[simp ↓] theorem wFldA_ap : wFldA cn f wo wv op T τ S = wo τ S fun d S1 => ∃ l fs v, d = .loc l ∧ S1[l]? = some (.ins cn fs) ∧ fs.lookup f = some v ∧ wv τ S1 fun y S2 => op v y S2 fun z S3 => ∃ fs', S3[l]? = some (.ins cn fs') ∧ fs'.length < 1000 ∧ T.nx τ (S3.set l (.ins cn (putA f z fs'))) := rfl
@[simp ↓] theorem wMeth_ap {m : Str} : wMeth cn m sp wo wr τ S R = wo τ S fun d S1 => (∃ l fs, d = .loc l ∧ S1[l]? = some (.ins cn fs) ∧ fs.lookup m = none) ∧ wr τ S1 fun ds S2 => sp (d :: ds) S2 R := rfl
@[simp ↓] theorem wMeth0_ap {m : Str} : wMeth0 cn m sp wo τ S R = wo τ S fun d S1 => (∃ l fs, d = .loc l ∧ S1[l]? = some (.ins cn fs) ∧ fs.lookup m = none) ∧ sp [d] S1 R := rfl
@[simp ↓] theorem wMake_ap : wMake cn sp wr τ S R = wr τ S fun ds S1 => sp (.loc S1.length :: ds) (S1 ++ [.ins cn []]) fun d S2 => d = .non ∧ R (.loc S1.length) S2 := rfl
end
end Dl

namespace Dl
open PySem L2

/-! ## int(x), x a text -/
def dIntT : DCall := fun ds S R => ∃ a n, ds = [.str a] ∧ intText? a = some n ∧ a.length ≤ 640 ∧ R (.int n) S
section
variable {X : Cx}
theorem cd_intT : CallR X (.type "int") (rCD X dIntT) := CallR.imp call_int_str fun xs H Q ⟨ρ, S, ds, R, W, r, ⟨a, n, e, h1, h2, q⟩, p⟩ => by
  subst e
  obtain ⟨v, rfl, rv⟩ := r.one_of
  cases rv.str_of
  exact ⟨a, n, rfl, h1, h2, p _ _ q ρ H _ (Ext.refl _ _) W .int⟩
end
@[simp] theorem dIntT_ap {a : Str} {S : Sto} {R : DQ} : dIntT [.str a] S R = ∃ n, intText? a = some n ∧ a.length ≤ 640 ∧ R (.int n) S := by simp [dIntT]
end Dl

namespace Dl
open PySem L2

/-! ## constants of the module: a tuple of texts, a dict of texts -/
def textOf : Value → Option Str
  | .str x _ => some x
  | _ => none
def GTupD (K : PySem.W.Frag) (mg : Str → Option Value) (x : Str) (zs : List Str) : Prop :=
  ∃ a o its n, mg x = some (.ref a) ∧ K.lookup a = some o ∧ o.cls = .type "tuple" ∧ o.data = .seq its n ∧ its.size ≤ sizeLine ∧ its.toList.map textOf = zs.map some
theorem vals_texts : ∀ {zs : List Str} {us : List Value}, us.map textOf = zs.map some → Vals (zs.map V.str) us
  | [], [], _ => .nil
  | [], _ :: _, h => by cases h
  | _ :: _, [], h => by cases h
  | z :: zs, u :: us, h => by
    injection h with h1 h2
    refine .cons ?_ (vals_texts h2)
    cases u with
    | str y t =>
      have : y = z := Option.some.inj h1
      exact ⟨t, by rw [this]⟩
    | _ => cases h1
theorem VRs.texts {K : PySem.W.Frag} {ρ : List Addr} {H : Hp} : ∀ (zs : List Str), VRs K ρ H (zs.map D.str) (zs.map V.str)
  | [] => .nil
  | _ :: zs => .cons .str (VRs.texts zs)
/-- what one entry of a written dict says -/
def entOf (e : DictEntry) : Option (Str × Int × Str) := match e.key, e.val with
  | .str k _, .str v _ => some (k, e.hash, v)
  | _, _ => none
def tabOf (P : Params) (tab : List (Str × Str)) : List (Option (Str × Int × Str)) := tab.map fun q => some (q.1, PyData.keyHash P q.1, q.2)
def GDctD (K : PySem.W.Frag) (w : World) (mg : Str → Option Value) (x : Str) (tab : List (Str × Str)) : Prop :=
  ∃ d es n, mg x = some (.ref d) ∧ K.lookup d = some ⟨.type "dict", none, .dict es n, #[]⟩ ∧ (d == sysModules) = false ∧ es.toList.map entOf = tabOf w.params tab
def atT (tab : List (Str × Str)) (z : Str) : Option Str := (tab.find? fun q => q.1 == z).map (·.2)
theorem ents_get {P : Params} {z : Str} : ∀ {tab : List (Str × Str)} {es : List DictEntry}, es.map entOf = tabOf P tab →
    PySem.W.KeysLit P es ∧ es.any (·.refKey) = false ∧ (match es.find? (·.key.isStr z) with | some e => ∃ v t, atT tab z = some v ∧ e.val = .str v t | none => atT tab z = none)
  | [], [], _ => ⟨trivial, rfl, rfl⟩
  | [], _ :: _, h => by cases h
  | _ :: _, [], h => by cases h
  | (k, v) :: tab, e :: es, h => by
    injection h with h1 h2
    obtain ⟨i1, i2, i3⟩ := ents_get (z := z) h2
    obtain ⟨key, ht⟩ : ∃ key, e.key = key := ⟨_, rfl⟩
    obtain ⟨val, hv⟩ : ∃ val, e.val = val := ⟨_, rfl⟩
    unfold entOf at h1
    rw [ht, hv] at h1
    cases key with
    | str k' tk =>
      cases val with
      | str v' tv =>
        have h3 := Option.some.inj h1
        obtain ⟨h4, h5⟩ := Prod.mk.inj h3
        obtain ⟨h6, h7⟩ := Prod.mk.inj h5
        subst h4 h7
        refine ⟨⟨⟨k', tk, ht, h6⟩, i1⟩, ?_, ?_⟩
        · rw [List.any_cons, i2]
          unfold DictEntry.refKey
          rw [ht]
          rfl
        · rw [List.find?_cons]
          have e1 : e.key.isStr z = (k' == z) := by rw [ht]; rfl
          rw [e1]
          unfold atT
          rw [List.find?_cons]
          cases hz : (k' == z) with
          | true => exact ⟨v', tv, rfl, hv⟩
          | false => exact i3
      | _ => cases h1
    | _ => cases h1
theorem GDctD.get {K : PySem.W.Frag} {w : World} {mg : Str → Option Value} {x : Str} {tab : List (Str × Str)} (h : GDctD K w mg x tab) :
    ∃ d es n, mg x = some (.ref d) ∧ KDict K w d es n ∧ ∀ z : Str, (∃ v t, atT tab z = some v ∧ PySem.W.nsIn K d z = some (some (.str v t))) ∨ (atT tab z = none ∧ PySem.W.nsIn K d z = some none) := by
  obtain ⟨d, es, n, h1, h2, h3, h4⟩ := h
  refine ⟨d, es, n, h1, ⟨h2, (ents_get (z := Str.empty) h4).1, h3⟩, fun z => ?_⟩
  obtain ⟨-, a2, a3⟩ := ents_get (z := z) h4
  unfold PySem.W.nsIn
  rw [h2]
  dsimp only
  cases hf : es.toList.find? (·.key.isStr z) with
  | some e =>
    rw [hf] at a3
    obtain ⟨v, t, b1, b2⟩ := a3
    exact .inl ⟨v, t, b1, by show some (some e.val) = _; rw [b2]⟩
  | none =>
    rw [hf] at a3
    refine .inr ⟨a3, ?_⟩
    dsimp only
    rw [a2]
    rfl

def wKdI (tab : List (Str × Str)) (we : WE) : WE := fun τ S R => we τ S fun d S' => ∃ z u, d = .str z ∧ atT tab z = some u ∧ R (.str u) S'
def wKdN (tab : List (Str × Str)) (we : WE) : WE := fun τ S R => we τ S fun d S' => ∃ z, d = .str z ∧ R (.bl (!(atT tab z).isSome)) S'
def wKdH (tab : List (Str × Str)) (we : WE) : WE := fun τ S R => we τ S fun d S' => ∃ z, d = .str z ∧ R (.bl (atT tab z).isSome) S'
section
variable {X : Cx} {pos npos : Pos} {e : Expr} {we : WE} {x : Str} {tab : List (Str × Str)}
theorem de_gtup {zs : List Str} (hg : Gl X x) (h : GTupD X.K X.mg x zs) (hd : (x == ("__debug__" : Str)) = false := by decide) : PE X (.Name x pos) (dE X (wC (.tup (zs.map D.str)))) := by
  obtain ⟨a, o, its, n, h1, h2, h3, h4, h5, h6⟩ := h
  exact de_of_C (pe_glob (v := .ref a) hg h1 rfl hd) fun ρ H => .tup (.inr (.inr ⟨o, its, n, h2, h3, h4, h5, vals_texts h6⟩)) (.texts zs)
theorem de_kdI (hg : Gl X x) (h : GDctD X.K X.w X.mg x tab) (he : PE X e (dE X we)) (hs : PlainIx e := by exact fun _ _ => rfl) (hd : (x == ("__debug__" : Str)) = false := by decide) : PE X (.Subscript (.Name x npos) e pos) (dE X (wKdI tab we)) := by
  obtain ⟨d, es, n, h1, k, h2⟩ := h.get
  refine PE.imp (pe_ix ix_kdict (pe_glob (v := .ref d) hg h1 rfl hd) he hs) fun σ H Q ⟨ρ, τ, S, R, W, er, hw, p⟩ => ?_
  refine ⟨ρ, τ, S, _, W, er, hw, fun dd S' ⟨z, u, ez, hu, hr⟩ ρ' H' v x' W' r' => ?_⟩
  subst ez
  cases r'.str_of
  rcases h2 z with ⟨v, t, q1, q2⟩ | ⟨q1, _⟩
  · rw [hu] at q1
    cases q1
    exact ⟨d, z, .str u, rfl, rfl, ⟨es, n, _, k.at_, k.lit, q2, ⟨t, rfl⟩⟩, p _ _ hr ρ' H' _ x' W' .str⟩
  · rw [hu] at q1
    cases q1
theorem de_kdN (hg : Gl X x) (h : GDctD X.K X.w X.mg x tab) (he : PE X e (dE X we)) (hd : (x == ("__debug__" : Str)) = false := by decide) : PE X (.Compare e [.NotIn] [.Name x npos] pos) (dE X (wKdN tab we)) := by
  obtain ⟨d, es, n, h1, k, h2⟩ := h.get
  refine PE.imp (pe_cmpR (op_notIn_kd k) he (pe_glob (v := .ref d) hg h1 rfl hd) (by first | exact nomark _ | rfl)) fun σ H Q ⟨ρ, τ, S, R, W, er, hw, p⟩ => ?_
  refine ⟨ρ, τ, S, _, W, er, hw, fun dd S' ⟨z, ez, hr⟩ ρ' H' v x' W' r' => ?_⟩
  subst ez
  cases r'.str_of
  rcases h2 z with ⟨v, t, q1, q2⟩ | ⟨q1, q2⟩
  · rw [q1] at hr
    exact ⟨z, _, rfl, rfl, q2, p _ _ hr ρ' H' _ x' W' .bl⟩
  · rw [q1] at hr
    exact ⟨z, _, rfl, rfl, q2, p _ _ hr ρ' H' _ x' W' .bl⟩
theorem de_kdH (hg : Gl X x) (h : GDctD X.K X.w X.mg x tab) (he : PE X e (dE X we)) (hd : (x == ("__debug__" : Str)) = false := by decide) : PE X (.Compare e [.In] [.Name x npos] pos) (dE X (wKdH tab we)) := by
  obtain ⟨d, es, n, h1, k, h2⟩ := h.get
  refine PE.imp (pe_cmpR (op_in_kd k) he (pe_glob (v := .ref d) hg h1 rfl hd) (by first | exact nomark _ | rfl)) fun σ H Q ⟨ρ, τ, S, R, W, er, hw, p⟩ => ?_
  refine ⟨ρ, τ, S, _, W, er, hw, fun dd S' ⟨z, ez, hr⟩ ρ' H' v x' W' r' => ?_⟩
  subst ez
  cases r'.str_of
  rcases h2 z with ⟨v, t, q1, q2⟩ | ⟨q1, q2⟩
  · rw [q1] at hr
    exact ⟨z, _, rfl, rfl, q2, p _ _ hr ρ' H' _ x' W' .bl⟩
  · rw [q1] at hr
    exact ⟨z, _, rfl, rfl, q2, p _ _ hr ρ' H' _ x' W' .bl⟩
/-- a test by an expression that tells a truth -/
theorem dt_of_kdN (hg : Gl X x) (h : GDctD X.K X.w X.mg x tab) (he : PE X e (dE X we)) (hd : (x == ("__debug__" : Str)) = false := by decide) : PT X (.Compare e [.NotIn] [.Name x npos] pos) (dT X (wTest (wKdN tab we))) := by
  obtain ⟨d, es, n, h1, k, h2⟩ := h.get
  refine PT.imp (pt_cmpR (op_notIn_kd k) he (pe_glob (v := .ref d) hg h1 rfl hd) (by first | exact nomark _ | rfl)) fun σ H Q ⟨ρ, τ, S, R, W, er, hw, p⟩ => ?_
  refine ⟨ρ, τ, S, _, W, er, hw, fun dd S' ⟨z, ez, b, eb, hr⟩ ρ' H' v x' W' r' => ?_⟩
  subst ez
  cases r'.str_of
  cases eb
  rcases h2 z with ⟨v, t, q1, q2⟩ | ⟨q1, q2⟩
  · rw [q1] at hr
    exact ⟨z, _, rfl, rfl, q2, _, rfl, p _ _ hr ρ' H' x' W'⟩
  · rw [q1] at hr
    exact ⟨z, _, rfl, rfl, q2, _, rfl, p _ _ hr ρ' H' x' W'⟩
theorem dt_of_kdH (hg : Gl X x) (h : GDctD X.K X.w X.mg x tab) (he : PE X e (dE X we)) (hd : (x == ("__debug__" : Str)) = false := by decide) : PT X (.Compare e [.In] [.Name x npos] pos) (dT X (wTest (wKdH tab we))) := by
  obtain ⟨d, es, n, h1, k, h2⟩ := h.get
  refine PT.imp (pt_cmpR (op_in_kd k) he (pe_glob (v := .ref d) hg h1 rfl hd) (by first | exact nomark _ | rfl)) fun σ H Q ⟨ρ, τ, S, R, W, er, hw, p⟩ => ?_
  refine ⟨ρ, τ, S, _, W, er, hw, fun dd S' ⟨z, ez, b, eb, hr⟩ ρ' H' v x' W' r' => ?_⟩
  subst ez
  cases r'.str_of
  cases eb
  rcases h2 z with ⟨v, t, q1, q2⟩ | ⟨q1, q2⟩
  · rw [q1] at hr
    exact ⟨z, _, rfl, rfl, q2, _, rfl, p _ _ hr ρ' H' x' W'⟩
  · rw [q1] at hr
    exact ⟨z, _, rfl, rfl, q2, _, rfl, p _ _ hr ρ' H' x' W'⟩
end
end Dl

namespace Dl
open PySem L2

/-! ## 1 << k, i >> k, i & 1; a, b = [x, y]; d.items() walked -/
def dShl : DOp := fun d1 d2 S R => ∃ k : Nat, d1 = .int 1 ∧ d2 = .int (k : Int) ∧ k ≤ 134217727 ∧ R (.int (2 ^ k)) S
def dShr : DOp := fun d1 d2 S R => ∃ (i : Int) (k : Nat), d1 = .int i ∧ d2 = .int (k : Int) ∧ R (.int (i / 2 ^ k)) S
def dAnd1 : DOp := fun d1 d2 S R => ∃ i : Int, d1 = .int i ∧ d2 = .int 1 ∧ R (.int (i % 2)) S
section
variable {X : Cx} {es : List Expr} {wgs : WGs} {pos : Pos}
theorem od_shl : OpR X (binaryOp .LShift) (rD X dShl) := OpR.imp op_oneShl fun x y H Q ⟨ρ, S, d1, d2, R, W, r1, r2, ⟨k, e1, e2, c, q⟩, p⟩ => by
  subst e1 e2
  exact ⟨k, r1.int_of, r2.int_of, c, p _ _ q ρ H _ (Ext.refl _ _) W .int⟩
theorem od_shr : OpR X (binaryOp .RShift) (rD X dShr) := OpR.imp op_shrN fun x y H Q ⟨ρ, S, d1, d2, R, W, r1, r2, ⟨i, k, e1, e2, q⟩, p⟩ => by
  subst e1 e2
  exact ⟨i, k, r1.int_of, r2.int_of, p _ _ q ρ H _ (Ext.refl _ _) W .int⟩
theorem od_and1 : OpR X (binaryOp .BitAnd) (rD X dAnd1) := OpR.imp op_andM fun x y H Q ⟨ρ, S, d1, d2, R, W, r1, r2, ⟨i, e1, e2, q⟩, p⟩ => by
  subst e1 e2
  exact ⟨i, 1, r1.int_of, r2.int_of, p _ _ q ρ H _ (Ext.refl _ _) W .int⟩
/-- a list's items, told one by one -/
def wgUnl (n : Nat) (gs : WGs) : WG := fun d τ S R => ∃ l ds, d = .loc l ∧ S[l]? = some (.lst ds) ∧ ds.length = n ∧ gs ds τ S R
theorem dg_unl {k n : Nat} (hc : X.calm = true) (h : PGs X es (dGs X wgs)) (hn : (assignEach es X.env).length = n := by rfl) (hst : (assignEach es X.env).findIdx? (·.1) = none := by rfl) : PG X (.Tuple es k pos) (dG X (wgUnl n wgs)) :=
  PG.imp (pg_unl hc h hn hst) fun v σ H Q ⟨ρ, τ, S, d, R, W, er, r, ⟨l, ds, e1, hs, hl, h⟩, p⟩ => by
    subst e1
    obtain ⟨a, h1, rfl⟩ := r.loc_of
    obtain ⟨vs, h2, h3⟩ := W.obj l a _ h1 hs
    exact ⟨a, vs, rfl, SqL.of h2, h3.length.trans hl, ρ, τ, S, ds, R, W, er, h3, h, p⟩
end

/-- the pairs of the dict at a, each a new tuple -/
def Itxi (a : Addr) (n ep : Nat) : It :=
  ⟨fun i H => i < n ∧ ∃ es, H a = some (.ext (DictObj a es ep)) ∧ es.size = n ∧ ∀ e, es[i]? = some e → ∃ x y, RelV x e.key ∧ RelV y e.val,
   fun i H x H' => ∃ T es e kx vx, H a = some (.ext (DictObj a es ep)) ∧ es[i]? = some e ∧ RelV kx e.key ∧ RelV vx e.val ∧ x = .ref T ∧ H T = none ∧ H' = upd H T (.tup [kx, vx]),
   fun i H => n ≤ i ∧ ∃ es, H a = some (.ext (DictObj a es ep)) ∧ es.size = n⟩
section
variable {P : Program} {w : World} {K : PySem.W.Frag} {a : Addr} {n ep : Nat}
theorem turn_xi {elts : List Expr} {kk : Nat} {tpos : Pos} (it : Addr) : Turn P w K (.Tuple elts kk tpos) (Itxi a n ep) [it] it (fun i h => ∃ ok ov, IsItemIter h it a i n ep ok ov) where
  mem := by simp
  obj := fun i h st b hb => by
    have e : b = it := by simpa using hb
    subst e
    obtain ⟨ok, ov, e⟩ := st
    exact ⟨_, e, fun v z => nomatch z⟩
  keep := fun i h h' st k => let ⟨ok, ov, e⟩ := st; ⟨ok, ov, k it (by simp) _ e⟩
  item := by
    intro X hP hw hK hc i pins s σ H E I hf st ⟨hi, es, hd, hz, hx⟩
    subst hP hw hK
    obtain ⟨r1, _⟩ := I.hok a _ hd
    subst hz
    obtain ⟨ok, ov, he⟩ := st
    have hlt : it < s.heap.objs.size := Heap.lt_size he
    have he2 : es[i]? = some es[i] := Array.getElem?_eq_getElem hi
    obtain ⟨kx, vx, rk, rv⟩ := hx _ he2
    refine wpAny_pyNext_items_item_raw he r1 hi fun h' ho hT hz hk => ?_
    refine ⟨_, rfl, wpAny_letOwnedTupleGo_items (s := { s with heap := h' }) ho fun h'' he' sb => ?_⟩
    have hT2 : h''.get? s.heap.objs.size = some { cls := .type "tuple", data := .seq #[es[i].key, es[i].val] } := (sb.2 _ (Nat.ne_of_gt hlt)).trans hT
    have new : ObjOk X.prog X.w (upd H s.heap.objs.size (.tup [kx, vx])) h'' s.heap.objs.size (.tup [kx, vx]) :=
      ⟨by show 2 ≤ sizeLine; decide, [es[i].key, es[i].val], .cons rk (.cons rv .nil), ⟨_, hT2, rfl, _, rfl⟩⟩
    have I1 : L2.Inv X pins σ (upd H s.heap.objs.size (.tup [kx, vx])) { s with heap := h'' } :=
      I.turnedNew (t' := s.toks) (ch := [it]) (fun b ob hb e => (sb.2 b (by simpa using hb)).trans (hk b ob (by simpa using hb) e)) hf (Nat.le_refl _) new
    refine ⟨.ref s.heap.objs.size, _, I1, rfl, ⟨_, es, _, kx, vx, hd, he2, rk, rv, rfl, I.hok.fresh (Nat.le_refl _), rfl⟩, ⟨es[i].key, es[i].val, he'⟩, fun b hb => ?_⟩
    have e : b = it := by simpa using hb
    rw [e, upd_ne (Nat.ne_of_lt hlt)]
    exact (hf it (by simp)).1
  done := by
    intro X hP hw hK hc i pins s σ H E I hf st ⟨hi, es, hd, hz⟩
    subst hP hw hK
    obtain ⟨f0, f1, f2, f3, f4, f5⟩ := hf it (by simp)
    obtain ⟨r1, _⟩ := I.hok a _ hd
    obtain ⟨ok, ov, he⟩ := st
    subst hz
    exact wpAny_pyNext_items_end_raw (I.ok.hd hc) he r1 hi fun h' eb => ⟨rfl, I.turned (t' := s.toks) (fun b ob hb e => eb b ob hb e) f0 f1 f3 f4 f5⟩
  self := fun A i s Q E st h => let ⟨_, _, e⟩ := st; PySem.W.kcp_self e h
end
def iItemsX (td : TE) : TI := fun σ H R => td σ H fun x H1 => ∃ d es ep, x = .ref d ∧ (d == sysModules) = false ∧ H1 d = some (.ext (DictObj d es ep)) ∧ R (Itxi d es.size ep) H1
theorem pi_itemsX {X : Cx} {e : Expr} {td : TE} {apos cpos : Pos} {elts : List Expr} {kk : Nat} {tpos : Pos} (he : PE X e td) (hbase : attributeBase e "items" X.env (eval e X.env) = eval e X.env := by rfl) (hline : (apos.endLine == cpos.line) = true := by rfl) :
    PI X (.Tuple elts kk tpos) (.Call (.Attribute e "items" apos) [] [] cpos) (iItemsX td) := by
  refine ⟨fun pins s σ H R I h => ?_⟩
  refine wpAny_Call_method (T := "dict") (id := "dict.items") hbase rfl hline F.plainAttrs_dict F.slot_dict_items F.type_dict_items (thn (he.run pins s σ H _ I h) fun u s1 ⟨x, H1, I1, rx, d, es, ep, ex, hs, hd, q⟩ => ?_)
  subst ex
  obtain rfl : u = Value.ref d := rx
  obtain ⟨r1, _⟩ := I1.hok d _ hd
  have hm : s1.heap.DictRaw d es ep := r1
  refine ⟨hm.typeIs, ?_, ?_⟩
  · obtain ⟨o, ho, hc, hd2⟩ := hm
    exact fun a e => by
      cases e
      exact ⟨o, ho, hc.2.1⟩
  have I2 : L2.Inv X pins σ H1 { s1 with heap := s1.heap.push { cls := .type "dict_items", data := .fields #[.ref d] } } := I1.kept (t' := s1.toks) fun b ob q => Heap.get?_push_of_some _ q
  have fin : wpAny (model X.prog X.w) X.A (pyIter (.ref s1.heap.objs.size)) (PIE X pins σ (.Tuple elts kk tpos) R) X.xe { s1 with heap := s1.heap.push { cls := .type "dict_items", data := .fields #[.ref d] } } := by
    refine wpAny_pyIter_items_raw (d := d) ⟨_, Heap.get?_push_size _ rfl, rfl, rfl⟩ (hm.at fun o ho => Heap.get?_push_of_some _ ho) (pi_one (tk := s1.toks) I2 _ (turn_xi _) ⟨.none, .none, ?_⟩ q)
    exact Heap.get?_push_size _ rfl
  show wpAny _ _ (callWith cpos (.builtin "dict.items") [.ref d] [] []) _ X.xe s1
  exact method_meetsIn F.slot_dict_items F.entry_dict_items rfl (PySem.evalArgs_none ⟨rfl, hm.typeIs, F.args_dict_items_1 _, _, meets_dict_items_raw d hs, ⟨es, ep, hm⟩, fin⟩)
def pairD (p : D × D) : D := .tup [p.1, p.2]
/-- the dict at l, as its pairs are walked -/
theorem jr_items {X : Cx} {ρ : List Addr} {H : Hp} {l : Nat} {a : Addr} {n ep : Nat} {kvs : List (D × D)} (h : ρ[l]? = some a) (hn : kvs.length = n) : JR X (Itxi a n ep) ρ H (kvs.map pairD) (fun S => S[l]? = some (.dct ep kvs)) where
  go := fun i d ρ' S' H' x W' hc hd => by
    obtain ⟨h1, h2, h3, es, h4, h5⟩ := W'.obj l a _ (x.get h) hc
    have hl : kvs.length = es.size := (Paired.length h5).trans Array.length_toList
    rw [List.getElem?_map] at hd
    cases q : kvs[i]? with
    | none =>
      rw [q] at hd
      cases hd
    | some p =>
      rw [q] at hd
      cases hd
      have hi : i < kvs.length := (List.getElem?_eq_some_iff.mp q).1
      have he : es[i]? = some es[i] := Array.getElem?_eq_getElem (by omega)
      have hp : EntR X.w X.K ρ' H' p es[i] := by
        have : ∀ {l1 : List (D × D)} {l2 : List DictEntry} {j : Nat} {y : D × D} {z : DictEntry}, Paired (EntR X.w X.K ρ' H') l1 l2 → l1[j]? = some y → l2[j]? = some z → EntR X.w X.K ρ' H' y z := by
          intro l1 l2 j y z hpr
          induction hpr generalizing j with
          | nil => intro e1 _; simp at e1
          | cons r t ih =>
            cases j with
            | zero =>
              intro e1 e2
              simp only [List.getElem?_cons_zero, Option.some.injEq] at e1 e2
              subst e1 e2
              exact r
            | succ j => exact ih
        exact this h5 q (by rw [Array.getElem?_toList]; exact he)
      obtain ⟨k, kv, dv, g1, g2, g3, g4, g5, g6, g7⟩ := hp
      refine ⟨⟨by omega, es, h4, by omega, fun e' e2 => ?_⟩, fun y H2 ⟨T, es', e', kx, vx, h6, h7, h8, h9, h10, h11, h12⟩ => ?_⟩
      · rw [he] at e2
        cases e2
        exact ⟨kv, dv, g5, g7⟩
      · subst h10 h12
        rw [h4] at h6
        obtain ⟨rfl, _⟩ := dictObj_inj (Option.some.inj h6)
        rw [he] at h7
        cases h7
        cases relV_one h8 g5
        cases relV_one h9 g7
        exact ⟨ext_new h11, W'.laid h11, .tup (.inl upd_same) (.cons (g4.ext W'.sep (ext_new h11)) (.cons (g6.ext W'.sep (ext_new h11)) .nil))⟩
  stop := fun i ρ' S' H' x W' hc hi => by
    obtain ⟨h1, h2, h3, es, h4, h5⟩ := W'.obj l a _ (x.get h) hc
    have hl : kvs.length = es.size := (Paired.length h5).trans Array.length_toList
    exact ⟨by simpa [hn] using hi, es, h4, by omega⟩
def wiItems (we : WE) : WI := fun τ S R => we τ S fun d S1 => ∃ l ep kvs, d = .loc l ∧ S1[l]? = some (.dct ep kvs) ∧ R (kvs.map pairD) (fun S' => S'[l]? = some (.dct ep kvs)) S1
theorem di_items {X : Cx} {e : Expr} {we : WE} {apos cpos : Pos} {elts : List Expr} {kk : Nat} {tpos : Pos} (he : PE X e (dE X we)) (hbase : attributeBase e "items" X.env (eval e X.env) = eval e X.env := by rfl) (hline : (apos.endLine == cpos.line) = true := by rfl) :
    PI X (.Tuple elts kk tpos) (.Call (.Attribute e "items" apos) [] [] cpos) (dI X (wiItems we)) := by
  refine PI.imp (pi_itemsX he hbase hline) fun σ H R ⟨ρ, τ, S, Rd, W, er, h, p⟩ => ⟨ρ, τ, S, _, W, er, h, fun d S1 ⟨l, ep, kvs, e1, h2, h1⟩ ρ1 H1 v x1 W1 r => ?_⟩
  subst e1
  obtain ⟨a, h3, rfl⟩ := r.loc_of
  obtain ⟨h4, h5, h6, es, h7, h8⟩ := W1.obj l a _ h3 h2
  exact ⟨a, es, ep, rfl, h4, h7, p _ _ S1 h1 ρ1 H1 _ x1 W1 (jr_items h3 ((Paired.length h8).trans Array.length_toList))⟩
section
variable {τ : DEnv} {S : Sto} {R : DQ} {we : WE} {i j m n : Int} {gs : WGs} {l : Nat} {ds : List D}
@[simp] theorem dShl_ap {k : Nat} : dShl (.int 1) (.int (k : Int)) S R = (k ≤ 134217727 ∧ R (.int (2 ^ k)) S) := by
  refine propext ⟨fun ⟨k', _, e, h⟩ => ?_, fun h => ⟨k, rfl, rfl, h⟩⟩
  cases Int.ofNat.inj (D.int.inj e)
  exact h
@[simp] theorem dShr_ap {k : Nat} : dShr (.int i) (.int (k : Int)) S R = R (.int (i / 2 ^ k)) S := by
  refine propext ⟨fun ⟨i', k', e1, e, h⟩ => ?_, fun h => ⟨i, k, rfl, rfl, h⟩⟩
  cases Int.ofNat.inj (D.int.inj e)
  cases e1
  exact h
@[simp] theorem dAnd1_ap : dAnd1 (.int i) (.int 1) S R = R (.int (i % 2)) S := by simp [dAnd1]
@[simp ↓] theorem wiItems_ap {Ri : List D → (Sto → Prop) → Sto → Prop} : wiItems we τ S Ri = we τ S fun d S1 => ∃ l ep kvs, d = .loc l ∧ S1[l]? = some (.dct ep kvs) ∧ Ri (kvs.map pairD) (fun S' => S'[l]? = some (.dct ep kvs)) S1 := rfl
theorem wgUnl_loc {Rn : DEnv → Sto → Prop} {n : Nat} (h : S[l]? = some (.lst ds)) : wgUnl n gs (.loc l) τ S Rn = (ds.length = n ∧ gs ds τ S Rn) := by
  refine propext ⟨fun ⟨l', ds', e, h1, h2, h3⟩ => ?_, fun h2 => ⟨l, ds, rfl, h, h2⟩⟩
  cases e
  rw [h] at h1
  cases h1
  exact ⟨h2, h3⟩
end
end Dl

namespace Dl
open PySem L2 PyProof.Rows PySem.Spec

/-! ## sorted(set(xs)), xs tuples of whole numbers, fewer than 64 -/
def tupI (k : List Int) : D := .tup (k.map D.int)
theorem tupI_inj {a b : List Int} (h : tupI a = tupI b) : a = b := by
  have h2 : a.map D.int = b.map D.int := D.tup.inj h
  exact List.map_inj_right (fun x y e => D.int.inj e) |>.mp h2
theorem lts_ints {A : Around} {s : Shared} : ∀ (ns ms : List Int) (us vs : List Value) (b : Bool), PlVs s.heap (ns.map D.int) us → PlVs s.heap (ms.map D.int) vs → ltDs (ns.map D.int) (ms.map D.int) = some b → LtsAt A s us vs b
  | [], [], us, vs, b, r1, r2, e => by
    cases r1
    cases r2
    cases e
    exact .nil
  | [], m :: ms, us, vs, b, r1, r2, e => by
    cases r1
    cases r2
    cases e
    exact .left
  | n :: ns, [], us, vs, b, r1, r2, e => by
    cases r1
    cases r2
    cases e
    exact .right
  | n :: ns, m :: ms, us, vs, b, r1, r2, e => by
    cases r1 with
    | cons x1 t1 =>
    cases r2 with
    | cons x2 t2 =>
    cases x1
    cases x2
    rename_i tk1 tk2
    obtain ⟨q, he, hiff⟩ := HT.eqAt_int A s n tk1 m tk2
    rw [List.map_cons, List.map_cons, ltDs] at e
    simp only [keyOf] at e
    by_cases hnm : n = m
    · have hb : NestedKey.beq (.num n) (.num m) = true := by rw [hnm]; simp [NestedKey.beq]
      rw [if_pos hb] at e
      cases q with
      | true => exact .same he (lts_ints ns ms _ _ b t1 t2 e)
      | false => exact absurd (hiff.mpr hnm) Bool.false_ne_true
    · have hb : ¬ NestedKey.beq (.num n) (.num m) = true := by simp [NestedKey.beq, hnm]
      rw [if_neg hb, ltD] at e
      cases e
      cases q with
      | true => exact absurd (hiff.mp rfl) hnm
      | false => exact .less he fun prog w E Q q => HT.rcLt_int A s n tk1 m tk2 prog w E Q q
section
variable {prog : Program} {w : World} {A : Around} {E : Value → Shared → Prop} {s : Shared}
theorem firstsO : ∀ (vs : List Value) (fs : List (Option Value)) {Q : List (Option Value) → Shared → Prop}, vs.length = fs.length → (∀ (i : Nat) (v : Value), vs[i]? = some v → ∃ (a : Addr) (xs : Array Value), v = Value.ref a ∧ s.heap.IsTuple a xs ∧ fs[i]? = some xs[0]?) → Q fs s →
    wpAny (model prog w) A (vs.mapM firstOfTuple') Q E s
  | [], [], _, _, _, h => by rw [List.mapM_nil]; exact wpAny_pure h
  | [], _ :: _, _, l, _, _ => by cases l
  | _ :: _, [], _, l, _, _ => by cases l
  | v :: vs, f :: fs, Q, l, t, h => by
    obtain ⟨a, xs, rfl, ⟨o, ho, hc, n, hd⟩, hf⟩ := t 0 v rfl
    rw [List.mapM_cons]
    refine wpAny_bind ?_
    rw [PySem.W.kas_first_eq]
    refine wpAny_bind (PySem.W.Looks.here (show PySem.W.Looks (model prog w) s.heap (typeOf (Value.ref a)) o.cls from (PySem.W.Looks.ld ho).andThen .now) ?_)
    rw [hc, if_neg (by first | decide | simp)]
    refine wpAny_bind (listItems_at ho hd (wpAny_pure ?_))
    have hf' : f = xs[0]? := by simpa using hf
    rw [← hf']
    exact wpAny_bind (firstsO vs fs (Q := fun bs s' => wpAny (model prog w) A (pure (f :: bs)) Q E s') (by simpa using l) (fun i v e => t (i + 1) v (by simpa using e)) (wpAny_pure h))
/-- tuples of whole numbers that may be empty: how they compare -/
theorem plv_tupI {h : Heap} {ks : List Int} {u : Value} (x : PlV h (tupI ks) u) : ∃ (a : Addr) (xs : Array Value), u = Value.ref a ∧ h.IsTuple a xs ∧ PlVs h (ks.map D.int) xs.toList := by
  unfold tupI at x
  cases x with
  | tup i t => exact ⟨_, _, rfl, i, t⟩
theorem tup_lt_call {a b : Addr} {us vs : Array Value} {k : Bool} {Q : Value → Shared → Prop} (ha : s.heap.IsTuple a us) (hb : s.heap.IsTuple b vs) (h : ∀ A' : Around, LtsAt A' s us.toList vs.toList k) (q : Q (.bool k) s) :
    wpAny (model prog w) A (call (.builtin "tuple.__lt__") [.ref a, .ref b]) Q E s := by
  obtain ⟨⟨cls, dd, data, sl⟩, ho, hc, n, hd⟩ := id ha
  obtain ⟨⟨cls2, dd2, data2, sl2⟩, ho2, hc2, n2, hd2⟩ := id hb
  simp only at hc hd hc2 hd2
  subst hc hd hc2 hd2
  have T : s.TypeIs (.ref a) "tuple" := ⟨_, ho, rfl⟩
  refine wpAny_call (codeAny_call_builtin PySem.F.slot_tuple_lt.plain PySem.F.entry_tuple_lt (PySem.F.slot_tuple_lt.check _ _ _ _ _ _ _ _ T (PySem.F.args_tuple_lt_2 _ _) ?_))
  refine wpAny_mono (tuple_lts a b us vs n n2 dd dd2 sl sl2 k prog w _ (wants Q E) s ⟨ho, ho2, h _, q⟩) (fun fin s' q => ?_) fun _ _ z => z
  cases fin with
  | done f => exact q
  | again c => exact q
theorem firsts_ex {h : Heap} {rd : Value → D} : ∀ (us : List Value), (∀ u ∈ us, ∃ k : List Int, rd u = tupI k) → (∀ u ∈ us, PlV h (rd u) u) → ∃ fs : List (Option Value), us.length = fs.length ∧
    (∀ (i : Nat) (v : Value), us[i]? = some v → ∃ (a : Addr) (xs : Array Value), v = Value.ref a ∧ h.IsTuple a xs ∧ fs[i]? = some xs[0]?) ∧ ∀ (i : Nat) (v : Value), us[i]? = some v → rd v = tupI [] → fs[i]? = some none
  | [], _, _ => ⟨[], rfl, fun i v e => by simp at e, fun i v e => by simp at e⟩
  | u :: us, hk, hp => by
    obtain ⟨fs, h1, h2, h3⟩ := firsts_ex us (fun v hv => hk v (List.mem_cons_of_mem _ hv)) (fun v hv => hp v (List.mem_cons_of_mem _ hv))
    obtain ⟨k, ek⟩ := hk u List.mem_cons_self
    have pu := hp u List.mem_cons_self
    rw [ek] at pu
    obtain ⟨a, xs, rfl, ht, pl⟩ := plv_tupI pu
    refine ⟨xs[0]? :: fs, by simp [h1], fun i v e => ?_, fun i v e ev => ?_⟩
    · cases i with
      | zero =>
        simp only [List.getElem?_cons_zero, Option.some.injEq] at e
        subst e
        exact ⟨a, xs, rfl, ht, by simp⟩
      | succ i => exact h2 i v (by simpa using e)
    · cases i with
      | zero =>
        simp only [List.getElem?_cons_zero, Option.some.injEq] at e
        subst e
        rw [ek] at ev
        cases tupI_inj ev
        have hx : xs.toList = [] := by
          cases hx : xs.toList with
          | nil => rfl
          | cons _ _ => rw [hx] at pl; cases pl
        have : xs[0]? = none := by
          rw [← Array.getElem?_toList, hx]
          rfl
        simp [this]
      | succ i => exact h3 i v (by simpa using e) ev
theorem typ_all : ∀ (us : List Value) {Q : List Value → Shared → Prop}, (∀ u ∈ us, ∃ (a : Addr) (xs : Array Value), u = Value.ref a ∧ s.heap.IsTuple a xs) → Q (us.map fun _ => Value.type "tuple") s → wpAny (model prog w) A (us.mapM typeOf) Q E s
  | [], _, _, h => by rw [List.mapM_nil]; exact wpAny_pure h
  | u :: us, Q, t, h => by
    obtain ⟨a, xs, rfl, ⟨o, ho, hc, n, hd⟩⟩ := t u List.mem_cons_self
    rw [List.mapM_cons]
    refine wpAny_bind (PySem.W.Looks.here (show PySem.W.Looks (model prog w) s.heap (typeOf (Value.ref a)) (Value.type "tuple") from hc ▸ (PySem.W.Looks.ld ho).andThen .now) ?_)
    exact wpAny_bind (typ_all us (Q := fun bs s' => wpAny (model prog w) A (pure (Value.type "tuple" :: bs)) Q E s') (fun v hv => t v (List.mem_cons_of_mem _ hv)) (wpAny_pure h))
theorem srt_cmpE {rd : Value → D} {us : List Value} (hk : ∀ u ∈ us, ∃ k : List Int, rd u = tupI k) (hc : ∀ d ∈ us.map rd, ∀ c ∈ us.map rd, ∃ b, ltD d c = some b) (h : ∀ u ∈ us, PlV s.heap (rd u) u) (hn : ∃ u ∈ us, rd u = tupI []) (hu : A.units + 100 < cLine) :
    ∃ κ, (∀ (Q : SortKind → Shared → Prop) (E : Value → Shared → Prop), Q κ s → wpAny (model prog w) A (keyKind' us.toArray) Q E s) ∧ SrtO.Cmp prog w A s κ (fun p => p.1 ∈ us) (fun p q => ltT (rd p.1) (rd q.1)) := by
  obtain ⟨fs, f1, f2, f3⟩ := firsts_ex us hk h
  have cmp : ∀ κ, κ = general' ∨ κ = oneType' → SrtO.Cmp prog w A s κ (fun p => p.1 ∈ us) (fun p q => ltT (rd p.1) (rd q.1)) := by
    intro κ hκ p q hp hq
    obtain ⟨b, hb⟩ := hc _ (List.mem_map_of_mem hp) _ (List.mem_map_of_mem hq)
    have e := ltD_T _ _ b (h _ hp).pure (h _ hq).pure hb
    rw [e] at hb
    obtain ⟨k1, e1⟩ := hk _ hp
    obtain ⟨k2, e2⟩ := hk _ hq
    have v1 := h _ hp
    have v2 := h _ hq
    show wpAny (model prog w) A (keyLt' κ p.1 q.1) (fun r s' => s' = s ∧ r = ltT (rd p.1) (rd q.1)) (fun _ _ => False) s
    generalize ltT (rd p.1) (rd q.1) = res at hb ⊢
    rw [e1] at v1 hb
    rw [e2] at v2 hb
    obtain ⟨a1, xs1, g1, t1, p1⟩ := plv_tupI v1
    obtain ⟨a2, xs2, g2, t2, p2⟩ := plv_tupI v2
    rw [g1, g2]
    have hb' : ltDs (k1.map D.int) (k2.map D.int) = some res := by
      have : ltD (tupI k1) (tupI k2) = ltDs (k1.map D.int) (k2.map D.int) := by simp [tupI, ltD]
      rw [← this]
      exact hb
    have L : ∀ A' : Around, LtsAt A' s xs1.toList xs2.toList res := fun A' => lts_ints k1 k2 _ _ _ p1 p2 hb'
    rcases hκ with rfl | rfl
    · show wpAny (model prog w) A (oneLt' false (.ref a1) (.ref a2)) _ _ s
      rw [oneLt'_eq]
      simp only [Bool.false_eq_true, if_false]
      exact wpAny_bind (rcLt_tups t1 t2 (by omega) (L _) prog w _ _ (wpAny_truthy_bool ⟨rfl, rfl⟩))
    · rw [keyLt'_oneType, oneLt'_eq]
      simp only [if_true]
      refine wpAny_bind (wpAny_cRoomFor (by omega) ?_)
      obtain ⟨o, ho, hcl, n, hd⟩ := id t1
      refine wpAny_bind (wpAny_callSpecialIfBound?_slot (T := "tuple") ⟨o, ho, hcl⟩ PySem.F.slot_tuple_lt (tup_lt_call t1 t2 L ?_))
      exact wpAny_truthy_bool ⟨rfl, rfl⟩
  have nall : fs.toArray.all (fun x => x.isSome) = false := by
    obtain ⟨u, hu1, hu2⟩ := hn
    obtain ⟨i, hi, ei⟩ := List.mem_iff_getElem.mp hu1
    have e3 := f3 i u (by rw [List.getElem?_eq_getElem hi, ei]) hu2
    rw [Bool.eq_false_iff]
    intro ha
    rw [List.all_toArray, List.all_eq_true] at ha
    have := ha none (List.mem_of_getElem? e3)
    cases this
  have tt : ∀ u ∈ us, ∃ (a : Addr) (xs : Array Value), u = Value.ref a ∧ s.heap.IsTuple a xs := fun u hm => by
    obtain ⟨i, hi, ei⟩ := List.mem_iff_getElem.mp hm
    obtain ⟨a, xs, g1, g2, _⟩ := f2 i u (by rw [List.getElem?_eq_getElem hi, ei])
    exact ⟨a, xs, g1, g2⟩
  by_cases hf : (fs.toArray[0]?.bind id).isSome = true
  · refine ⟨general', fun Q E q => ?_, cmp _ (.inl rfl)⟩
    rw [keyKind'_eq, List.mapM_toArray, map_eq_pure_bind]
    refine wpAny_bind (wpAny_bind (firstsO us fs f1 f2 (wpAny_pure ?_)))
    rw [nall, if_neg (by simp), if_pos hf]
    exact wpAny_pure q
  · refine ⟨oneType', fun Q E q => ?_, cmp _ (.inr rfl)⟩
    rw [keyKind'_eq, List.mapM_toArray, map_eq_pure_bind]
    refine wpAny_bind (wpAny_bind (firstsO us fs f1 f2 (wpAny_pure ?_)))
    rw [nall, if_neg (by simp), if_neg hf]
    rw [oneTypeOnly'_eq, List.mapM_toArray, map_eq_pure_bind]
    refine wpAny_bind (wpAny_bind (wpAny_bind (typ_all us tt (wpAny_pure ?_))))
    obtain ⟨u, hu1, _⟩ := hn
    cases us with
    | nil => cases hu1
    | cons u0 ur =>
      have h0 : (List.map (fun _ => Value.type "tuple") (u0 :: ur)).toArray[0]? = some (Value.type "tuple") := by simp
      rw [h0]
      have hall2 : ((List.map (fun _ => Value.type "tuple") (u0 :: ur)).toArray.all fun x => x == Value.type "tuple") = true := by
        simp only [List.all_toArray, List.all_map, List.all_eq_true]
        intro _ _
        rfl
      simp only [hall2, if_true]
      exact wpAny_pure (wpAny_pure q)
/-- tuples of whole numbers can be sorted -/
structure SrtT (ds : List D) : Prop where
  kind : ∀ d ∈ ds, ∃ k : List Int, d = tupI k
  plain : ∀ d ∈ ds, plainD 90 d = true
theorem ltDs_ints : ∀ a b : List Int, ∃ r, ltDs (a.map D.int) (b.map D.int) = some r
  | [], [] => ⟨_, rfl⟩
  | [], _ :: _ => ⟨_, rfl⟩
  | _ :: _, [] => ⟨_, rfl⟩
  | x :: a, y :: b => by
    rw [List.map_cons, List.map_cons, ltDs]
    simp only [keyOf]
    split
    · exact ltDs_ints a b
    · exact ⟨_, rfl⟩
theorem ltD_tupI (a b : List Int) : ∃ r, ltD (tupI a) (tupI b) = some r := by
  obtain ⟨r, e⟩ := ltDs_ints a b
  exact ⟨r, by simp [tupI, ltD, e]⟩
theorem srt_cmpT {rd : Value → D} {us : List Value} (S : SrtT (us.map rd)) (h : ∀ u ∈ us, PlV s.heap (rd u) u) (hu : A.units + 100 < cLine) (h2 : 2 ≤ us.length) :
    ∃ κ, (∀ (Q : SortKind → Shared → Prop) (E : Value → Shared → Prop), Q κ s → wpAny (model prog w) A (keyKind' us.toArray) Q E s) ∧ SrtO.Cmp prog w A s κ (fun p => p.1 ∈ us) (fun p q => ltT (rd p.1) (rd q.1)) := by
  have hc : ∀ d ∈ us.map rd, ∀ c ∈ us.map rd, ∃ b, ltD d c = some b := fun d hd c hc => by
    obtain ⟨a, rfl⟩ := S.kind d hd
    obtain ⟨b, rfl⟩ := S.kind c hc
    exact ltD_tupI a b
  by_cases hn : ∃ u ∈ us, rd u = tupI []
  · exact srt_cmpE (fun u hm => S.kind _ (List.mem_map_of_mem hm)) hc h hn hu
  · refine srt_cmp ⟨.inr (.inr (.inl fun d hd => ?_)), S.plain, hc⟩ h hu h2
    obtain ⟨k, rfl⟩ := S.kind d hd
    cases k with
    | nil =>
      obtain ⟨u, hu1, hu2⟩ := List.mem_map.mp hd
      exact absurd ⟨u, hu1, hu2⟩ hn
    | cons i r => exact ⟨i, r.map D.int, by simp [tupI]⟩
end
/-- the items, each the tuple at an address -/
theorem tups_items {K : PySem.W.Frag} {ρ : List Addr} {H : Hp} : ∀ {ks : List (List Int)} {vs : List V}, VRs K ρ H (ks.map tupI) vs → ∃ kp : List (Addr × List Int), vs = kp.map (fun p => V.ref p.1) ∧ kp.map (·.2) = ks ∧ ∀ p ∈ kp, VR K ρ H (tupI p.2) (V.ref p.1)
  | [], vs, h => by
    cases h.nil_of
    exact ⟨[], rfl, rfl, by simp⟩
  | k :: ks, vs, h => by
    rw [List.map_cons] at h
    unfold VRs at h
    obtain ⟨v, vr, rfl, g1, g2⟩ := h
    obtain ⟨kp, e1, e2, e3⟩ := tups_items g2
    obtain ⟨a, us, rfl, h1, h2⟩ := VR.tup_of g1
    refine ⟨(a, k) :: kp, by simp [e1], by simp [e2], fun p hp => ?_⟩
    rcases List.mem_cons.mp hp with rfl | hp
    · exact VR.tup h1 h2
    · exact e3 p hp
theorem tup_sqt {K : PySem.W.Frag} {ρ : List Addr} {H : Hp} {k : List Int} {a : Addr} (h : VR K ρ H (tupI k) (V.ref a)) : SqT K H a (k.map V.int) := by
  obtain ⟨b, us, e, h1, h2⟩ := VR.tup_of h
  cases e
  have : us = k.map V.int := by
    clear h h1
    induction k generalizing us with
    | nil => exact h2.nil_of
    | cons i k ih =>
      rw [List.map_cons] at h2
      unfold VRs at h2
      obtain ⟨v, vr, rfl, g1, g2⟩ := h2
      rw [VR.int_of g1, ih vr g2]
      rfl
  rw [← this]
  exact h1.sq
theorem refs_vrs {K : PySem.W.Frag} {ρ : List Addr} {H : Hp} : ∀ {L : List (Addr × List Int)}, (∀ p ∈ L, VR K ρ H (tupI p.2) (V.ref p.1)) → VRs K ρ H (L.map fun p => tupI p.2) (L.map fun p => V.ref p.1)
  | [], _ => .nil
  | p :: L, h => .cons (h p List.mem_cons_self) (refs_vrs fun q hq => h q (List.mem_cons_of_mem _ hq))
def wSetSortT (we : WE) : WE := fun τ S R => we τ S fun d S1 => ∃ (ks : List (List Int)) (p : List D × (Sto → Prop)), lstD S1 d = some p ∧ p.1 = ks.map tupI ∧ ks.length < 64 ∧ (∀ k ∈ ks, plainD 90 (tupI k) = true) ∧ ∀ ys, ys.Pairwise (fun a b => ltT a b = true) → (∀ x, x ∈ ys ↔ x ∈ ks.map tupI) → R (.loc S1.length) (S1 ++ [.lst ys])
section
variable {X : Cx} {a : Expr} {we : WE} {p p2 q pos : Pos}
theorem de_setSortT (hc : X.calm = true) (hu : X.A.units + 150 < cLine) (hg : Gl X "sorted") (hm : X.mg "sorted" = none) (hg2 : Gl X "set") (hm2 : X.mg "set" = none) (ha : PE X a (dE X we))
    (na : starEach [a] X.env = (false, eval a X.env) :: starEach [] X.env := by rfl) : PE X (.Call (.Name "sorted" p) [.Call (.Name "set" p2) [a] [] q] [] pos) (dE X (wSetSortT we)) := by
  refine ⟨fun pins s σ H Q I ⟨ρ, τ, S, R, W, er, h, pe⟩ => ?_⟩
  refine Call_ (ld_blt I hg hm boot_sorted ?_)
  refine PyProof.Rows.callWith_builtin1 (PyProof.Rows.args_cons ?_ rfl) rfl rfl
  refine Call_ (ld_blt I hg2 hm2 boot_set ?_)
  refine PyProof.Rows.callWith_type1 (PyProof.Rows.args_cons (thn (ha.run pins s σ H (fun x H1 => ∃ (ρ1 : List Addr) (S1 : Sto) (d : D) (ks : List (List Int)) (pr : List D × (Sto → Prop)), Ext ρ H ρ1 H1 ∧ XW X ρ1 S1 H1 ∧ VR X.K ρ1 H1 d x ∧ lstD S1 d = some pr ∧ pr.1 = ks.map tupI ∧ ks.length < 64 ∧ (∀ k ∈ ks, plainD 90 (tupI k) = true) ∧ ∀ ys, ys.Pairwise (fun a b => ltT a b = true) → (∀ x, x ∈ ys ↔ x ∈ ks.map tupI) → R (.loc S1.length) (S1 ++ [.lst ys])) I
    ⟨ρ, τ, S, _, W, er, h, fun d S1 ⟨ks, pr, e1, e2, e3, e4⟩ ρ1 H1 x y W1 r => ⟨ρ1, S1, d, ks, pr, y, W1, r, e1, e2, e3, e4⟩⟩) fun v s1 ⟨x, H1, I1, r1, q1⟩ => PyProof.Rows.args_nil ?_) na) na rfl
  obtain ⟨ρ1, S1, d, ks, pr, y, W1, r, e1, e2, e3, hpl, e4⟩ := q1
  obtain ⟨l, vs, rfl, hq, hv, _⟩ := lstD_ok W1 r e1
  cases (show v = Value.ref l from r1)
  obtain ⟨its, rv, pl, hz⟩ := I1.list hq
  rw [e2] at hv
  obtain ⟨kp, rfl, rfl, k3⟩ := tups_items hv
  refine call_set_tups (P := X.prog) (w := X.w) kp (I1.ok.hd hc) pl.isList (by simpa using refs_of_vals rv) (fun p hp => I1.isT (tup_sqt (k3 p hp))) (by simpa using e3) (by show X.A.units + 3 < cLine; omega) fun h' tk L es ep t T g hk => ?_
  refine PyProof.Rows.args_nil ?_
  have I2 : L2.Inv X pins σ H1 { s1 with heap := h', toks := tk } := I1.kept hk
  obtain ⟨o, ho, hex, hd⟩ := T.ob
  have T : SetTR X.prog X.w ({ s1 with heap := h', toks := tk } : Shared).heap s1.heap.objs.size L es ep t := T
  have hsz := T.size
  have hfew := T.few
  have hfit := T.fits
  refine Calls.call_function_entry kind_sorted plain_sorted entry_sorted (args_sorted1 _) ?_
  unfold Builtin.«sorted»
  refine wpAny_bind (m := checkCount "sorted" 1 1 _) (wpAny_pure ?_)
  refine wpAny_bind (collect_set (s := { s1 with heap := h', toks := tk }) (A := X.A.in1) (I1.ok.hd hc) ⟨o, ho, hex.1, hd⟩ hfit (by unfold scanBound; omega) T.tab.ris T.led fun s2 ws k1 hz g1 o1 pm => ?_)
  have I3 : L2.Inv X pins σ H1 s2 := I2.call' (ch := []) o1 (Un.kept k1) (I2.hok.kept k1) (by rw [g1]; exact I2.bare) (fun _ z => nomatch z)
  have hes : es.toList.map (·.2) = L.map fun q => Value.ref q.1 := by
    rw [T.rows]
    unfold rowsOf
    rw [List.map_map] <;> rfl
  rw [hes] at pm
  have hlen : ws.length = L.length := by rw [pm.length_eq, List.length_map]
  have hwz : ws.length ≤ sizeLine := by have := sizeLine_eq; omega
  refine wpAny_bind (wpAny_newList ?_ hwz)
  have hoL : (s2.heap.push (seqObj "list" ws.toArray 0)).get? s2.heap.objs.size = some (seqObj "list" ws.toArray 0) := Heap.get?_push_size _ rfl
  generalize hh2 : s2.heap.push (seqObj "list" ws.toArray 0) = h2 at hoL ⊢
  have I4 : L2.Inv X pins σ H1 { s2 with heap := h2 } := I3.kept (fun b o e => by rw [← hh2]; exact Heap.get?_push_of_some _ e)
  have Lsub : ∀ p ∈ L, p ∈ kp := fun p hp => List.mem_of_mem_take (g.sub p hp)
  have rL := refs_vrs (K := X.K) (ρ := ρ1) (H := H1) (L := L) fun p hp => k3 p (Lsub p hp)
  have vL : Vals (L.map fun p => V.ref p.1) (L.map fun p => Value.ref p.1) := vals_of_refs L
  have pL : plainsD 90 (L.map fun p => tupI p.2) = true := plains_of fun d hd => by
    obtain ⟨p, hp, rfl⟩ := List.mem_map.mp hd
    exact hpl _ (List.mem_map_of_mem (Lsub p hp))
  obtain ⟨m1, m2⟩ := rdV_all (plVs_of (s := { s2 with heap := h2 }) I4 90 _ _ _ pL rL vL)
  have hS2 : SrtT (ws.map (rdV h2)) := ⟨fun d hd => by
    obtain ⟨u, hu, rfl⟩ := List.mem_map.mp hd
    have : rdV h2 u ∈ L.map (fun p => tupI p.2) := by rw [← m1]; exact List.mem_map_of_mem (pm.mem_iff.mp hu)
    obtain ⟨p, hp, e⟩ := List.mem_map.mp this
    exact ⟨p.2, e.symm⟩, fun d hd => by
    obtain ⟨u, hu, rfl⟩ := List.mem_map.mp hd
    have : rdV h2 u ∈ L.map (fun p => tupI p.2) := by rw [← m1]; exact List.mem_map_of_mem (pm.mem_iff.mp hu)
    exact plains_mem pL this⟩
  show wpAny _ _ _ _ _ { s2 with heap := h2 }
  refine wpAny_bind (wpAny_holding (wpAny_call_entry slot_list_sort ⟨_, hoL, rfl⟩ entry_list_sort (SrtO.list_sort_ord (s := { s2 with heap := h2 }) (swo_D (rdV_pure h2)) hoL hwz (fun h2' h3 keep => ?_) fun out hs hb => ⟨_, rfl, ?_⟩) (args_list_sort _)))
  · have kt := isTuple_keep hoL keep
    exact srt_cmpT (s := { s2 with heap := h3 }) hS2 (fun u hm => (m2 u (pm.mem_iff.mp hm)).keep kt) (by show X.A.units + 1 + 1 + 100 < cLine; omega) h2'
  · obtain ⟨vs', q1, q2⟩ := perm_vals (hb.perm.trans pm) _ (by rw [m1]; exact rL) vL
    obtain ⟨e', he'⟩ := sortedHeap_at (vs := ws) (out := out.toArray) hoL
    have hlen2 : vs'.length ≤ sizeLine := by rw [q2.length, hb.perm.length_eq]; exact hwz
    have hn2 := I3.hok.fresh (Nat.le_refl s2.heap.objs.size)
    refine wpAny_pure ⟨_, rfl, .ref s2.heap.objs.size, upd H1 s2.heap.objs.size (.lst vs'), I3.laid (t' := s2.toks) (fun b u e => ?_) (Nat.le_refl _) ⟨hlen2, out, e', q2, he'⟩, rfl, ?_⟩
    · have hb : b < s2.heap.objs.size := Heap.lt_size e
      rw [sortedHeap_old (Nat.ne_of_lt hb) (by rw [← hh2, size_push']; exact Nat.lt_succ_of_lt hb), ← hh2]
      exact Heap.get?_push_of_some _ e
    · have po : (out.map (rdV h2)).Perm (L.map fun p => tupI p.2) := by
        rw [← m1]
        exact (hb.perm.trans pm).map _
      have mem : ∀ x, x ∈ out.map (rdV h2) ↔ x ∈ (kp.map (·.2)).map tupI := fun x => by
        rw [po.mem_iff, List.map_map]
        constructor
        · intro hx
          obtain ⟨p, hp, rfl⟩ := List.mem_map.mp hx
          exact List.mem_map.mpr ⟨p, Lsub p hp, rfl⟩
        · intro hx
          obtain ⟨p, hp, rfl⟩ := List.mem_map.mp hx
          obtain ⟨p', hp', e⟩ := List.mem_map.mp (g.all p (by rw [List.take_length]; exact hp))
          exact List.mem_map.mpr ⟨p', hp', by simp only [Function.comp]; rw [← e]⟩
      have nd : (out.map (rdV h2)).Nodup := by
        rw [po.nodup_iff]
        have := T.nd
        rw [List.nodup_iff_pairwise_ne] at this ⊢
        rw [List.pairwise_map] at this ⊢
        exact this.imp fun h e => h (tupI_inj e)
      refine new_lst W1 q1 (e4 _ ?_ mem) (pe.ext W1 y) hn2
      have pw : (out.map (rdV h2)).Pairwise fun a b => ltT b a = false := List.pairwise_map.mpr (hs.imp fun h => h)
      refine (pw.and nd).imp_of_mem fun {a b} ha hb' ⟨g1, g2⟩ => ?_
      obtain ⟨u, hu, rfl⟩ := List.mem_map.mp ha
      obtain ⟨w, hw, rfl⟩ := List.mem_map.mp hb'
      cases g : ltT (rdV h2 u) (rdV h2 w) with
      | true => rfl
      | false => exact absurd (ltT_tri (rdV_pure h2 u) (rdV_pure h2 w) g g1) g2
end
section
variable {τ : DEnv} {S : Sto} {R : DQ} {we : WE}
@[simp ↓] theorem wSetSortT_ap : wSetSortT we τ S R = we τ S fun d S1 => ∃ (ks : List (List Int)) (p : List D × (Sto → Prop)), lstD S1 d = some p ∧ p.1 = ks.map tupI ∧ ks.length < 64 ∧ (∀ k ∈ ks, plainD 90 (tupI k) = true) ∧ ∀ ys, ys.Pairwise (fun a b => ltT a b = true) → (∀ x, x ∈ ys ↔ x ∈ ks.map tupI) → R (.loc S1.length) (S1 ++ [.lst ys]) := rfl
end
end Dl

namespace Dl
open PySem L2 PyProof.Rows PySem.Spec

/-! ## list(range(n)) -/
theorem boot_list : bootBuiltins "list" = some (.type "list") := by decide +kernel
theorem boot_rangeT : bootBuiltins "range" = some (.type "range") := by decide +kernel
def wListRange (we : WE) : WE := fun τ S R => we τ S fun d S1 => ∃ n : Nat, d = .int (n : Int) ∧ n ≤ 16000000 ∧ R (.loc S1.length) (S1 ++ [.lst (rangeD 0 n)])
section
variable {X : Cx} {a : Expr} {we : WE} {p p2 q pos : Pos}
theorem de_listRange (hc : X.calm = true) (hg : Gl X "list") (hm : X.mg "list" = none) (hg2 : Gl X "range") (hm2 : X.mg "range" = none) (ha : PE X a (dE X we))
    (na : starEach [a] X.env = (false, eval a X.env) :: starEach [] X.env := by rfl) : PE X (.Call (.Name "list" p) [.Call (.Name "range" p2) [a] [] q] [] pos) (dE X (wListRange we)) := by
  refine ⟨fun pins s σ H Q I ⟨ρ, τ, S, R, W, er, h, pe⟩ => ?_⟩
  refine Call_ (ld_blt I hg hm boot_list ?_)
  refine PyProof.Rows.callWith_type1 (PyProof.Rows.args_cons ?_ rfl) rfl rfl
  refine Call_ (ld_blt I hg2 hm2 boot_rangeT ?_)
  refine PyProof.Rows.callWith_type1 (PyProof.Rows.args_cons (thn (ha.run pins s σ H (fun x H1 => ∃ (ρ1 : List Addr) (S1 : Sto) (n : Nat), x = .int (n : Int) ∧ Ext ρ H ρ1 H1 ∧ XW X ρ1 S1 H1 ∧ n ≤ 16000000 ∧ R (.loc S1.length) (S1 ++ [.lst (rangeD 0 n)])) I
    ⟨ρ, τ, S, _, W, er, h, fun d S1 ⟨n, e1, e2, e3⟩ ρ1 H1 x y W1 r => by subst e1; exact ⟨ρ1, S1, n, r.int_of, y, W1, e2, e3⟩⟩) fun v s1 ⟨x, H1, I1, r1, q1⟩ => PyProof.Rows.args_nil ?_) na) na rfl
  obtain ⟨ρ1, S1, n, rfl, y, W1, hn, e3⟩ := q1
  obtain ⟨t, rfl⟩ := (show ∃ t, v = Value.int (n : Int) t from r1)
  refine call_range_1 ?_
  refine PyProof.Rows.args_nil ?_
  generalize hh : s1.heap.push { cls := .type "range", data := .fields #[.int 0 s1.toks, .int (n : Int) t, .int 1 (s1.toks + 1)] } = h1
  have hr : IsRange h1 s1.heap.objs.size 0 (n : Int) 1 s1.toks t (s1.toks + 1) := by rw [← hh]; exact IsRange.new _ _ _ _ _ _ _
  have I2 : L2.Inv X pins σ H1 { s1 with heap := h1, toks := s1.toks + 1 + 1 } := I1.kept fun b o e => by rw [← hh]; exact Heap.get?_push_of_some _ e
  have hsz : Builtin.Range.rangeSize 0 (n : Int) 1 = ((n : Nat) : Int) := by
    unfold Builtin.Range.rangeSize
    rw [if_pos (by decide)]
    split <;> omega
  refine call_list_range (s := { s1 with heap := h1, toks := s1.toks + 1 + 1 }) (n := n) (I1.ok.hd hc) hr (by unfold Builtin.Range.small Builtin.Range.rangeFitsLong; rw [hsz]; simp; omega) hsz (by omega) fun h' tk acc c hk hat hacc => ?_
  have hnn := I2.hok.fresh (Nat.le_refl h1.objs.size)
  have vr : VRs X.K ρ1 H1 (rangeD 0 n) ((List.range n).map fun i => V.int (0 + (i : Nat))) := by
    have : ∀ l : List Nat, VRs X.K ρ1 H1 (l.map fun i : Nat => D.int (0 + (i : Int))) (l.map fun i => V.int (0 + (i : Nat))) := by
      intro l
      induction l with
      | nil => exact .nil
      | cons i l ih => exact .cons .int ih
    exact this _
  have hv : Vals ((List.range n).map fun i => V.int (0 + (i : Nat))) acc.toList := vals_at (by simp [hacc.1]) fun j u e => by
    obtain ⟨t, e2⟩ := hacc.2 j u (by rw [← Array.getElem?_toList]; exact e)
    have hj : j < n := by
      have := (List.getElem?_eq_some_iff.mp e).1
      rw [Array.length_toList, hacc.1] at this
      exact this
    refine ⟨V.int (0 + (j : Nat)), by rw [List.getElem?_map, List.getElem?_range hj]; rfl, t, ?_⟩
    rw [e2]
    congr 1
    omega
  have hz : ((List.range n).map fun i : Nat => V.int (0 + (i : Nat))).length ≤ sizeLine := by have := sizeLine_eq; simp; omega
  have I3 := I2.laid (a := h1.objs.size) (o := .lst ((List.range n).map fun i => V.int (0 + (i : Nat)))) (h' := h') (t' := tk) (fun b o q => hk b o q) (Nat.le_refl _) ⟨hz, acc.toList, c, hv, by rw [Array.toArray_toList]; exact hat⟩
  exact ⟨.ref h1.objs.size, _, I3, rfl, new_lst W1 vr e3 (pe.ext W1 y) hnn⟩
end
section
variable {τ : DEnv} {S : Sto} {R : DQ} {we : WE}
@[simp ↓] theorem wListRange_ap : wListRange we τ S R = we τ S fun d S1 => ∃ n : Nat, d = .int (n : Int) ∧ n ≤ 16000000 ∧ R (.loc S1.length) (S1 ++ [.lst (rangeD 0 n)]) := rfl
end
end Dl

namespace Dl
open PySem L2 PyProof.Rows PySem.Spec

/-! ## xs != []: a list of anything -/
def dNeE : DOp := fun d1 d2 S R => ∃ i j xs, d1 = .loc i ∧ d2 = .loc j ∧ S[i]? = some (.lst xs) ∧ S[j]? = some (.lst []) ∧ R (.bl (!xs.isEmpty)) S
theorem od_neE {X : Cx} (hu : X.A.units + 150 < cLine) : OpR X (compareOp .NotEq) (rD X dNeE) := fun pins s σ H x y v u Q I rx ry ⟨ρ, S, d1, d2, R, W, r1, r2, ⟨i, j, xs, e1, e2, h1, h2, q⟩, p⟩ => by
  cases xs with
  | nil =>
    refine od_neQ hu pins s σ H x y v u Q I rx ry ⟨ρ, S, d1, d2, R, W, r1, r2, ⟨true, ?_, q⟩, p⟩
    subst e1 e2
    have kl : ∀ z, keyOf (.loc z) = none := fun _ => rfl
    unfold eqQ
    simp only [kl, lstD, h1, h2]
    rfl
  | cons z zs =>
    subst e1 e2
    obtain ⟨a, c1, rfl⟩ := r1.loc_of
    obtain ⟨b, c2, rfl⟩ := r2.loc_of
    cases (show v = Value.ref a from rx)
    cases (show u = Value.ref b from ry)
    obtain ⟨vs, g1, g2⟩ := W.obj i a _ c1 h1
    obtain ⟨ws, g3, g4⟩ := W.obj j b _ c2 h2
    cases g4.nil_of
    obtain ⟨its, rv, pl, hz⟩ := I.list (.inl (.inl g1))
    obtain ⟨its2, rv2, pl2, hz2⟩ := I.list (.inl (.inl g3))
    cases rv2
    have hn : its.length = zs.length + 1 := by rw [← rv.length, g2.length]; rfl
    have fin : EP X pins σ Q (.bool true) s := ⟨.bl true, H, I, rfl, p _ _ q ρ H _ (Ext.refl _ _) W .bl⟩
    show wpAny _ _ (richCompare .NotEq (.ref a) (.ref b)) _ _ _
    obtain ⟨⟨k1, d1, t1, z1⟩, o1, rfl, n1, rfl⟩ := pl.isList
    obtain ⟨⟨k2, d2, t2, z2⟩, o2, rfl, n2, rfl⟩ := pl2.isList
    have hin : (wants (fun v s' => v ≠ Value.notImplemented ∧ EP X pins σ Q v s') X.xe) (.ok (.ret (.bool true))) s := show Value.bool true ≠ Value.notImplemented ∧ EP X pins σ Q (.bool true) s from ⟨(fun x => nomatch x), fin⟩
    exact wpAny_richCompare_same_room (op := .NotEq) ⟨_, o1, rfl⟩ ⟨_, o2, rfl⟩ PySem.F.slot_list_ne (call_meetsIn PySem.F.slot_list_ne ⟨_, o1, rfl⟩ PySem.F.entry_list_ne (PySem.F.args_list_ne_2 _ _) (Meets.inModel (SeqAt.list_ne_lengthsAt a b its.toArray #[] n1 n2 d1 d2 z1 z2 (by simp [hn])) X.prog X.w) ⟨o1, o2, hin⟩) (by omega)
theorem dNeE_loc {i j : Nat} {xs : List D} {S : Sto} {R : DQ} (h1 : S[i]? = some (.lst xs)) (h2 : S[j]? = some (.lst [])) : dNeE (.loc i) (.loc j) S R = R (.bl (!xs.isEmpty)) S := by
  refine propext ⟨fun ⟨i', j', xs', e1, e2, h3, h4, q⟩ => ?_, fun q => ⟨i, j, xs, rfl, rfl, h1, h2, q⟩⟩
  cases e1
  rw [h1] at h3
  cases h3
  exact q
end Dl

namespace Dl
open PySem PySem.Spec PyProof.Rows

/-! ## list(reversed(xs)) -/
section
variable {prog : Program} {w : World} {A : Around} {E : Value → Shared → Prop} {s : Shared}
theorem init_rev {R : Result → Shared → Prop} {it l : Addr} {items : Array Value} (hh : A.handled = none) (hit : s.heap.IsRevIter it l ((items.size : Int) - 1)) (hl : s.heap.IsList l items) (hne : l ≠ it) (hn : items.size ≤ sizeLine) (S : Addr) (hSf : S ∉ [it, l])
    (hS : s.heap.get? S = some { cls := .type "list", data := .seq #[] })
    (hR : ∀ s' acc' c', Moved [S, it] (fun a b => b = a) s s' → s'.heap.get? S = some { cls := .type "list", dict := none, data := .seq acc' c', slots := #[] } → ItemsOf (fun i v => items[items.size - 1 - i]? = some v) acc' items.size → R (.ok (.ret .none)) s') :
    wpAny (model prog w) A.in1 (Builtin.«list.__init__» ⟨[.ref S, .ref it], []⟩)
      (fun fin s' => match fin with | .done f => R (.ok f) s' | .again c' => c'.quiet = true ∧ codeAny (model prog w) A c' R s') (fun e s' => R (.error e) s') s := by
  have W := (Walks.listRev (prog := prog) (w := w) (A := A.in1) hh it l hne items).toS
  have hSi : S ≠ it := fun e => hSf (by simp [e])
  have hSl : S ≠ l := fun e => hSf (by simp [e])
  show wpAny _ A.in1 (do let old ← Builtin.List.listItems (.ref S); Builtin.List.listUpdate (.ref S) (fun _ => #[]); letGo old.toList.reverse; Builtin.List.listExtendWith (.ref S) (.ref it) .none) _ _ s
  refine wpAny_bind ?_
  unfold Builtin.List.listItems
  refine wpAny_bind (wpAny_seqItems hS rfl (wpAny_pure ?_))
  show wpAny _ A.in1 (updateSeq S (fun _ => #[]) >>= fun _ => letGo (#[] : Array Value).toList.reverse >>= fun _ => Builtin.List.listExtendWith (.ref S) (.ref it) .none) _ _ s
  refine wpAny_bind (wpAny_updateSeq hS rfl ?_)
  have hS₂ := Heap.get?_update_self (Obj.mapSeq (fun _ => (#[] : Array Value))) hS rfl
  have oth : ∀ b o, b ≠ S → s.heap.get? b = some o → (s.heap.update S (Obj.mapSeq (fun _ => (#[] : Array Value)))).get? b = some o :=
    fun b o hb e => (Heap.get?_update_other _ _ (Ne.symm hb)).trans e
  refine wpAny_bind (wpAny_letGo ?_)
  have hit1 : (s.heap.update S (Obj.mapSeq (fun _ => (#[] : Array Value)))).IsRevIter it l ((items.size : Int) - 1) := hit.at fun o e => oth it o (Ne.symm hSi) e
  have hl1 : (s.heap.update S (Obj.mapSeq (fun _ => (#[] : Array Value)))).IsList l items := let ⟨o, e, r⟩ := hl; ⟨o, oth l o (Ne.symm hSl) e, r⟩
  have hT : ({ s with heap := s.heap.update S (Obj.mapSeq (fun _ => (#[] : Array Value))) } : Shared).TypeIs (.ref it) "list_reverseiterator" := Heap.IsRevIter.typeIs (s := { s with heap := s.heap.update S (Obj.mapSeq (fun _ => (#[] : Array Value))) }) hit1
  have h1 : Builtin.List.listSameRef (.ref S) (.ref it) = false := by simp [Builtin.List.listSameRef, hSi]
  unfold Builtin.List.listExtendWith
  refine wpAny_bind (wpAny_typeOf hT ?_)
  rw [if_neg (by rw [h1]; decide)]
  refine wpAny_bind (wpAny_pyIter_revIter (s := { s with heap := s.heap.update S (Obj.mapSeq (fun _ => (#[] : Array Value))) }) hit1 ?_)
  refine wpAny_bind (wpAny_holding ?_)
  unfold Builtin.List.listLengthHint
  refine wpAny_bind (wpAny_specialOf hT RT.nolen_lri ?_)
  show wpAny _ A.in1 (specialOf (Value.ref it) (Str.ofString "__length_hint__") >>= _) _ _ _
  refine wpAny_bind (wpAny_specialOf hT RT.hint_lri ?_)
  generalize hid : ("list_reverseiterator.__length_hint__" : String) = id0
  wp_delta
  rw [show splitId id0 = some ("list_reverseiterator", "__length_hint__") from by subst hid; decide +kernel]
  subst hid
  refine wpAny_bind (wpAny_isInstance (b := true) hT (by rw [isSubtype_type]; kernel_rfl) ?_)
  refine wpAny_pure ?_
  rw [if_neg (by decide)]
  have e0 : ((items.size : Nat) : Int) - 1 - ((0 : Nat) : Int) = (items.size : Int) - 1 := by omega
  refine wpAny_pure ⟨plainId_quiet F.plain_extend_loop _, codeAny_extend_loopS W hn _ hSf _ items.size 0 _ _ _ rfl (Nat.zero_le _) ⟨Nat.zero_le _, by rw [e0]; exact hit1, hl1⟩ hS₂ (ItemsOf.nil _) fun s' acc' c' hm hS' hacc => ?_⟩
  exact hR s' acc' c' (Moved.trans W.gtrans ((show Moved [S, it] (fun a b => b = a) s s from Moved.refl W.grefl).then_heap (Nat.le_refl _) fun b o hb e => oth b o (fun h => hb (by rw [h]; simp)) e) hm) hS' hacc
theorem call_list_rev {Q : Value → Shared → Prop} {it l : Addr} {items : Array Value} (hh : A.handled = none) (hit : s.heap.IsRevIter it l ((items.size : Int) - 1)) (hl : s.heap.IsList l items) (hne : l ≠ it) (hn : items.size ≤ sizeLine)
    (hQ : ∀ h' tk acc c, (∀ b o, b ≠ it → s.heap.get? b = some o → h'.get? b = some o) → h'.get? s.heap.objs.size = some { cls := .type "list", dict := none, data := .seq acc c, slots := #[] } → ItemsOf (fun i v => items[items.size - 1 - i]? = some v) acc items.size →
      Q (.ref s.heap.objs.size) { s with heap := h', toks := tk }) : wpAny (model prog w) A (call (.type "list") [.ref it]) Q E s := by
  obtain ⟨oi, hoi, _⟩ := id hit
  obtain ⟨ol, hol, _⟩ := id hl
  have hSi : s.heap.objs.size ≠ it := Nat.ne_of_gt (Heap.lt_size hoi)
  have hSl : s.heap.objs.size ≠ l := Nat.ne_of_gt (Heap.lt_size hol)
  refine callType_codes (Q₁ := fun obj s₁ => obj = .ref s.heap.objs.size ∧ s₁ = { s with heap := s.heap.push { cls := .type "list", data := .seq #[] } }) F.called_list (F.typeCall_list_1 _) F.entry_list_init
    (code_list_new _ ⟨rfl, rfl⟩) fun obj s₁ h₁ => ?_
  obtain ⟨rfl, rfl⟩ := h₁
  have hS : (s.heap.push { cls := .type "list", data := .seq #[] }).get? s.heap.objs.size = some { cls := .type "list", data := .seq #[] } := Heap.get?_push_size _ rfl
  refine ⟨⟨_, hS, rfl⟩, F.args_list_init_2 _ _, init_rev (A := A.in1) (s := { s with heap := s.heap.push { cls := .type "list", data := .seq #[] } }) hh (hit.at fun o e => Heap.get?_push_of_some _ e) (hl.push _) hne hn _ (by simp only [List.mem_cons, List.not_mem_nil, or_false, not_or]; exact ⟨hSi, hSl⟩) hS fun s' acc' c' hm hS' hacc => ?_⟩
  rw [Moved.eq_with hm]
  refine ⟨rfl, hQ s'.heap s'.toks acc' c' (fun b o hb e => hm.heap b o (fun hmem => ?_) (Heap.get?_push_of_some _ e)) hS' hacc⟩
  rcases List.mem_cons.mp hmem with e' | hmem
  · exact absurd (Heap.lt_size e) (by rw [e']; exact Nat.lt_irrefl _)
  · exact hb (List.mem_singleton.mp hmem)
end
end Dl
namespace Dl
open PySem L2 PyProof.Rows PySem.Spec
def wListRev (we : WE) : WE := fun τ S R => we τ S fun d S1 => ∃ l xs, d = .loc l ∧ S1[l]? = some (.lst xs) ∧ R (.loc S1.length) (S1 ++ [.lst xs.reverse])
section
variable {X : Cx} {e : Expr} {we : WE} {p p2 pos pos2 : Pos}
theorem de_listRev (hc : X.calm = true) (hg : Gl X "list") (hm : X.mg "list" = none) (hg2 : Gl X "reversed") (hm2 : X.mg "reversed" = none) (he : PE X e (dE X we))
    (hs : starEach [e] X.env = (false, eval e X.env) :: starEach [] X.env := by rfl)
    (hs2 : starEach [.Call (.Name "reversed" p2) [e] [] pos2] X.env = (false, eval (.Call (.Name "reversed" p2) [e] [] pos2) X.env) :: starEach [] X.env := by rfl) :
    PE X (.Call (.Name "list" p) [.Call (.Name "reversed" p2) [e] [] pos2] [] pos) (dE X (wListRev we)) := by
  refine ⟨fun pins s σ H Q I ⟨ρ, τ, S, R, W, er, h, pe⟩ => ?_⟩
  refine Call_ (ld_blt I hg hm boot_list (PyProof.Rows.callWith_type1 (args_cons (Call_ (ld_blt I hg2 hm2 PyProof.Rows.boot_reversed (PyProof.Rows.callWith_type1 (args_cons (thn (he.run pins s σ H (fun x H1 => ∃ (ρ1 : List Addr) (S1 : Sto) (l : Nat) (xs : List D), Ext ρ H ρ1 H1 ∧ XW X ρ1 S1 H1 ∧ VR X.K ρ1 H1 (.loc l) x ∧ S1[l]? = some (.lst xs) ∧ R (.loc S1.length) (S1 ++ [.lst xs.reverse])) I
    ⟨ρ, τ, S, _, W, er, h, fun d S1 ⟨l, xs, e1, e2, e3⟩ ρ1 H1 x y W1 r => by subst e1; exact ⟨ρ1, S1, l, xs, y, W1, r, e2, e3⟩⟩) fun u s1 ⟨v, H1, I1, r1, q1⟩ => args_nil ?_) hs) hs rfl))) hs2) hs2 rfl))
  obtain ⟨ρ1, S1, l, xs, y, W1, rv1, e2, e3⟩ := q1
  obtain ⟨a, c1, rfl⟩ := rv1.loc_of
  obtain rfl : u = Value.ref a := r1
  obtain ⟨vs, g1, g2⟩ := W1.obj l a _ c1 e2
  obtain ⟨its, rv, p', hz⟩ := I1.list (.inl (.inl g1))
  refine call_reversed_list p'.isList (args_nil ?_)
  have k0 : ∀ b o, s1.heap.get? b = some o → (s1.heap.push (revObj a ((its.toArray.size : Int) - 1))).get? b = some o := fun b o e => Heap.get?_push_of_some _ e
  have I2 : L2.Inv X pins σ H1 { s1 with heap := s1.heap.push (revObj a ((its.toArray.size : Int) - 1)) } := I1.kept (t' := s1.toks) k0
  obtain ⟨f0, f1, f2, f3, f4, f5⟩ := I1.fpOk (H' := H1) (b := s1.heap.objs.size) (Nat.le_refl _) (I1.hok.fresh (Nat.le_refl _))
  have hl := p'.isList
  obtain ⟨ol, hol, _⟩ := id hl
  have hne : a ≠ s1.heap.objs.size := Nat.ne_of_lt (Heap.lt_size hol)
  have hn : its.toArray.size ≤ sizeLine := by rw [List.size_toArray, ← rv.length]; exact hz
  refine call_list_rev (s := { s1 with heap := s1.heap.push (revObj a ((its.toArray.size : Int) - 1)) }) (I1.ok.hd hc) ⟨_, Heap.get?_push_size _ rfl, rfl, rfl⟩ (hl.push _) hne hn fun h' tk acc c hk hat hi => ?_
  generalize hh1 : s1.heap.push (revObj a ((its.toArray.size : Int) - 1)) = h1 at I2 hk hat ⊢
  have I3 : L2.Inv X pins σ H1 { s1 with heap := h', toks := tk } := I2.turned (t' := tk) (fun b o hb e => hk b o hb e) f0 f1 f3 f4 f5
  have hh2 : h1.objs.size = s1.heap.objs.size + 1 := by rw [← hh1, size_push']
  have hnn : H1 h1.objs.size = none := I2.hok.fresh (Nat.le_refl _)
  have kk : ∀ b o, s1.heap.get? b = some o → h'.get? b = some o := fun b o e => hk b o (Nat.ne_of_lt (Heap.lt_size e)) (by rw [← hh1]; exact k0 b o e)
  have I4 := I1.laid (a := h1.objs.size) (o := .lst vs.reverse) (h' := h') (t' := tk) kk (by rw [hh2]; omega) ⟨by rw [List.length_reverse]; exact hz, acc.toList, c, RT.vals_rev rv hi, by rw [Array.toArray_toList]; exact hat⟩
  exact ⟨.ref h1.objs.size, _, I4, rfl, new_lst W1 g2.reverse e3 (pe.ext W1 y) hnn⟩
end
section
variable {τ : DEnv} {S : Sto} {R : DQ} {we : WE}
@[simp ↓] theorem wListRev_ap : wListRev we τ S R = we τ S fun d S1 => ∃ l xs, d = .loc l ∧ S1[l]? = some (.lst xs) ∧ R (.loc S1.length) (S1 ++ [.lst xs.reverse]) := rfl
end
end Dl

namespace Dl
open PySem PySem.Spec PyProof.Rows

/-! ## n not in d.values(), the values whole numbers -/
theorem entry_cit : entryFor table "proto.contains_iter" = some Builtin.«proto.contains_iter» := entryFor_of_fast (by kernel_rfl)
theorem plain_cit : plainId "proto.contains_iter" = true := by decide +kernel
theorem nocont_vals : typeLookup (.type "dict_values") "__contains__" = pure none := by rw [typeLookup_type, builtinLookup_eq_fast]; kernel_rfl
section
variable {prog : Program} {w : World} {A : Around} {E : Value → Shared → Prop} {s : Shared}
theorem cit_loop {d it : Addr} {es : Array DictEntry} {ep : Nat} {n : Int} {tn : Tok} {ns : List Int} (hh : A.handled = none) (hne : d ≠ it) (hl : ns.length = es.size) (hv : ∀ (i : Nat) (e : DictEntry), es[i]? = some e → ∃ t, e.val = .int (ns.getD i 0) t) {R : Result → Shared → Prop} :
    ∀ (k i : Nat) (s : Shared), k = es.size - i → i ≤ es.size → s.heap.IsValIter it d i es.size ep → s.heap.DictRaw d es ep →
    (∀ h', (∀ b o, b ≠ it → s.heap.get? b = some o → h'.get? b = some o) → R (.ok (.ret (.bool (decide (n ∈ ns.drop i))))) { s with heap := h' }) →
    wpAny (model prog w) A.in1 (Builtin.«proto.contains_iter» ⟨[.ref it, .int n tn], []⟩)
      (fun fin s' => match fin with | .done f => R (.ok f) s' | .again c' => c'.quiet = true ∧ codeAny (model prog w) A c' R s') (fun e s' => R (.error e) s') s
  | 0, i, s, hk, hi, hit, hm, h => by
    unfold Builtin.«proto.contains_iter»
    refine wpAny_bind (wpAny_pyNext_values_end_raw (A := A.in1) hh hit hm (by omega) fun h' eb => ?_)
    have hd : ns.drop i = [] := List.drop_eq_nil_of_le (by omega)
    have := h h' eb
    rw [hd] at this
    refine wpAny_bind (wpAny_rule ?_)
    exact wpAny_pure this
  | k + 1, i, s, hk, hi, hit, hm, h => by
    have hlt : i < es.size := by omega
    unfold Builtin.«proto.contains_iter»
    refine wpAny_bind (wpAny_pyNext_values_item_raw (A := A.in1) hit hm hlt fun h' hit' sb => ?_)
    obtain ⟨t, et⟩ := hv i es[i] (Array.getElem?_eq_getElem hlt)
    have hlt2 : i < ns.length := by omega
    have eg : ns.getD i 0 = ns[i] := by rw [List.getD_eq_getElem?_getD, List.getElem?_eq_getElem hlt2]; rfl
    rw [eg] at et
    have hdrop : ns.drop i = ns[i] :: ns.drop (i + 1) := List.drop_eq_getElem_cons hlt2
    obtain ⟨q, he, hiff⟩ := HT.eqAt_int A.in1 { s with heap := h' } ns[i] t n tn
    dsimp only
    rw [et]
    refine wpAny_bind (he prog w _ _ ?_)
    cases q with
    | true =>
      have en := hiff.mp rfl
      rw [if_pos rfl]
      refine wpAny_bind (wpAny_rule ?_)
      refine wpAny_pure ?_
      have := h h' fun b o hb e => (sb.2 b hb).trans e
      rw [hdrop, decide_eq_true (by rw [en]; simp)] at this
      exact this
    | false =>
      have en : ns[i] ≠ n := fun z => absurd (hiff.mpr z) Bool.false_ne_true
      rw [if_neg Bool.false_ne_true]
      refine wpAny_pure ⟨plainId_quiet plain_cit _, codeAny_builtin entry_cit ?_⟩
      rw [Around.under_plainId plain_cit _]
      refine cit_loop hh hne hl hv k (i + 1) { s with heap := h' } (by omega) (by omega) hit' (hm.at fun o e => (sb.2 d hne).trans e) fun h2 k2 => ?_
      have := h h2 fun b o hb e => k2 b o hb ((sb.2 b hb).trans e)
      rw [hdrop] at this
      have e2 : decide (n ∈ ns[i] :: ns.drop (i + 1)) = decide (n ∈ ns.drop (i + 1)) := by
        exact decide_eq_decide.mpr (by rw [List.mem_cons]; exact ⟨fun q => q.resolve_left fun e => en e.symm, .inr⟩)
      rw [e2] at this
      exact this
theorem contains_vals {d v : Addr} {es : Array DictEntry} {ep : Nat} {n : Int} {tn : Tok} {ns : List Int} {Q : Bool → Shared → Prop} (hh : A.handled = none) (hvw : s.heap.IsValuesView v d) (hm : s.heap.DictRaw d es ep) (hl : ns.length = es.size)
    (hv : ∀ (i : Nat) (e : DictEntry), es[i]? = some e → ∃ t, e.val = .int (ns.getD i 0) t) (h : ∀ h', (∀ b o, s.heap.get? b = some o → h'.get? b = some o) → Q (decide (n ∈ ns)) { s with heap := h' }) :
    wpAny (model prog w) A (contains (.ref v) (.int n tn)) Q E s := by
  have hT : s.TypeIs (.ref v) "dict_values" := hvw.typeIs
  have hlt : v < s.heap.objs.size := by obtain ⟨o, ho, _⟩ := hvw; exact Heap.lt_size ho
  have hdl : d < s.heap.objs.size := by obtain ⟨o, ho, _⟩ := hm; exact Heap.lt_size ho
  unfold contains
  refine wpAny_holding ?_
  rw [stdlibNamesSay?_of_typeIs hT]
  refine wpAny_bind (wpAny_specialOf hT nocont_vals ?_)
  show wpAny _ _ (if ((none : Option Value) == some Value.none) = true then _ else _) _ _ _
  rw [if_neg (by simp)]
  refine wpAny_bind (wpAny_callSpecialUnlessNone?_none hT nocont_vals ?_)
  refine wpAny_bind (wpAny_rule ?_)
  refine wpAny_bind (wpAny_tryCatch (wpAny_pyIter_values_raw hvw hm ?_))
  refine wpAny_bind (wpAny_runValue (codeAny_builtin entry_cit ?_))
  rw [Around.under_plainId plain_cit _]
  have L := cit_loop (prog := prog) (w := w) (A := A) (R := wants (fun v s' => wpAny (model prog w) A (match v with
    | .bool b => pure b
    | _ => unsupported "internal:contains") Q E s') E) hh (Nat.ne_of_lt hdl) hl hv es.size 0 { s with heap := s.heap.push { cls := .type "dict_valueiterator", data := .fields #[.ref d, .int 0 0, .int es.size 0, .int ep 0] } } (n := n) (tn := tn) (by omega) (Nat.zero_le _)
    ⟨_, Heap.get?_push_size _ rfl, rfl, rfl⟩ (hm.at fun o e => Heap.get?_push_of_some _ e) fun h' k => by
      show wpAny _ _ (pure (decide (n ∈ ns.drop 0))) _ _ _
      exact wpAny_pure (h h' fun b o e => k b o (Nat.ne_of_lt (Heap.lt_size e)) (Heap.get?_push_of_some _ e))
  refine wpAny_mono L (fun fin s' q => ?_) fun _ _ z => z
  cases fin with
  | done f => exact q
  | again c => exact q
end
end Dl
namespace Dl
open PySem L2 PyProof.Rows PySem.Spec
/-- the view d.values() at p -/
def valsO (p d : Addr) : HO := .ext fun h => h.IsValuesView p d
theorem valsO_ok {P : Program} {w : World} {H : Hp} {h : Heap} {p d : Addr} (e : h.get? p = some { cls := .type "dict_values", data := .fields #[.ref d] }) : ObjOk P w H h p (valsO p d) :=
  ⟨⟨_, e, rfl, rfl⟩, ⟨_, e⟩, fun h1 h2 x k => let ⟨o, ho, r⟩ := x; ⟨o, k o ho, r⟩⟩
def tValsX (te : TE) : TE := fun σ H Q => te σ H fun x H1 => ∃ d es ep, x = .ref d ∧ (d == sysModules) = false ∧ H1 d = some (.ext (DictObj d es ep)) ∧ ∀ p, H1 p = none → Q (.ref p) (upd H1 p (valsO p d))
section
variable {X : Cx}
theorem pe_valsX {e : Expr} {te : TE} {apos cpos : Pos} (he : PE X e te) (hbase : attributeBase e "values" X.env (eval e X.env) = eval e X.env := by rfl) (hline : (apos.endLine == cpos.line) = true := by rfl) :
    PE X (.Call (.Attribute e "values" apos) [] [] cpos) (tValsX te) := by
  refine ⟨fun pins s σ H Q I h => ?_⟩
  refine wpAny_Call_method (T := "dict") (id := "dict.values") hbase rfl hline F.plainAttrs_dict F.slot_dict_values F.type_dict_values (thn (he.run pins s σ H _ I h) fun u s1 ⟨x, H1, I1, rx, d, es, ep, ex, hs, hd, q⟩ => ?_)
  subst ex
  obtain rfl : u = Value.ref d := rx
  obtain ⟨r1, _⟩ := I1.hok d _ hd
  have hm : s1.heap.DictRaw d es ep := r1
  refine ⟨hm.typeIs, ?_, ?_⟩
  · obtain ⟨o, ho, hc, hd2⟩ := hm
    exact fun a e => by
      cases e
      exact ⟨o, ho, hc.2.1⟩
  have hn : H1 s1.heap.objs.size = none := I1.hok.fresh (Nat.le_refl _)
  have fin : EP X pins σ Q (.ref s1.heap.objs.size) { s1 with heap := s1.heap.push { cls := .type "dict_values", data := .fields #[.ref d] } } :=
    ⟨.ref s1.heap.objs.size, upd H1 s1.heap.objs.size (valsO s1.heap.objs.size d), I1.laid (t' := s1.toks) (fun b u e => Heap.get?_push_of_some _ e) (Nat.le_refl _) (valsO_ok (Heap.get?_push_size _ rfl)), rfl, q _ hn⟩
  show wpAny _ _ (callWith cpos (.builtin "dict.values") [.ref d] [] []) _ X.xe s1
  exact method_meetsIn F.slot_dict_values F.entry_dict_values rfl (PySem.evalArgs_none ⟨rfl, hm.typeIs, F.args_dict_values_1 _, _, meets_dict_values_raw d hs, ⟨es, ep, hm⟩, fin⟩)
def rNotInVals : R2 := fun x y H Q => ∃ (n : Int) (p d : Addr) (es : Array DictEntry) (ep : Nat) (ns : List Int), x = .int n ∧ y = .ref p ∧ H p = some (valsO p d) ∧ H d = some (.ext (DictObj d es ep)) ∧ ns.length = es.size ∧
  (∀ (i : Nat) (e : DictEntry), es[i]? = some e → ∃ t, e.val = .int (ns.getD i 0) t) ∧ Q (.bl (!decide (n ∈ ns))) H
theorem op_notInVals (hc : X.calm = true) : OpR X (compareOp .NotIn) rNotInVals := by
  intro pins s σ H x y v u Q I rx ry ⟨n, p, d, es, ep, ns, ex, ey, hp, hd, hl, hv, q⟩
  subst ex ey
  obtain ⟨tn, rfl⟩ := (show ∃ t, v = Value.int n t from rx)
  obtain rfl : u = Value.ref p := ry
  have hvw : s.heap.IsValuesView p d := (I.hok p _ hp).1
  have hm : s.heap.DictRaw d es ep := (I.hok d _ hd).1
  show wpAny _ _ (do return Value.bool (!(← contains (.ref p) (.int n tn)))) _ _ _
  refine wpAny_bind (contains_vals (I.ok.hd hc) hvw hm hl hv fun h' k => wpAny_pure ⟨.bl (!decide (n ∈ ns)), H, I.kept k, rfl, q⟩)
def wNotVals (wa we : WE) : WE := fun τ S R => wa τ S fun d1 S1 => we τ S1 fun d2 S2 => ∃ (n : Int) (l ep : Nat) (kvs : List (D × D)) (ns : List Int), d1 = .int n ∧ d2 = .loc l ∧ S2[l]? = some (.dct ep kvs) ∧ kvs.map (·.2) = ns.map D.int ∧ R (.bl (!decide (n ∈ ns))) S2
theorem vals_ints {w : World} {K : PySem.W.Frag} {ρ : List Addr} {H : Hp} : ∀ {kvs : List (D × D)} {es : List DictEntry} {ns : List Int}, Paired (EntR w K ρ H) kvs es → kvs.map (·.2) = ns.map D.int → ns.length = es.length ∧ ∀ (i : Nat) (e : DictEntry), es[i]? = some e → ∃ t, e.val = .int (ns.getD i 0) t
  | _, _, ns, .nil, e => by
    cases ns with
    | nil => exact ⟨rfl, fun i e h => by simp at h⟩
    | cons _ _ => cases e
  | _, _, ns, .cons h t, e => by
    cases ns with
    | nil => cases e
    | cons n ns =>
      rw [List.map_cons, List.map_cons] at e
      injection e with e1 e2
      obtain ⟨l1, l2⟩ := vals_ints t e2
      refine ⟨by simp [l1], fun i e' h' => ?_⟩
      cases i with
      | zero =>
        simp only [List.getElem?_cons_zero, Option.some.injEq] at h'
        subst h'
        obtain ⟨k, kv, dv, g1, g2, g3, g4, g5, g6, g7⟩ := h
        rw [e1] at g6
        cases g6.int_of
        obtain ⟨t, et⟩ := g7
        exact ⟨t, by rw [et]; rfl⟩
      | succ i =>
        obtain ⟨t, et⟩ := l2 i e' (by simpa using h')
        exact ⟨t, by rw [et]; simp⟩
theorem vals_pass {wa we : WE} {σ : L2.St} {H : Hp} {Q : VK} (h : dE X (wNotVals wa we) σ H Q) : tOp rNotInVals (dE X wa) (tValsX (dE X we)) σ H Q := by
  obtain ⟨ρ, τ, S, R, W, er, h, p⟩ := h
  refine ⟨ρ, τ, S, _, W, er, h, fun d1 S1 h1 ρ1 H1 v1 x1 W1 r1 => ⟨ρ1, τ, S1, _, W1, er.ext W.sep x1, h1, fun d2 S2 h2 ρ2 H2 v2 x2 W2 r2 => ?_⟩⟩
  obtain ⟨n, l, ep, kvs, ns, e1, e2, hs, hk, hR⟩ := h2
  subst e1 e2
  obtain ⟨a, c1, rfl⟩ := r2.loc_of
  obtain ⟨g1, g2, g3, es, g4, g5⟩ := W2.obj l a _ c1 hs
  obtain ⟨l1, l2⟩ := vals_ints g5 hk
  refine ⟨a, es, ep, rfl, g1, g4, fun pp hp => ?_⟩
  have W3 : XW X ρ2 S2 (upd H2 pp (valsO pp a)) := W2.laid hp
  have ne : a ≠ pp := fun z => by rw [z, hp] at g4; cases g4
  refine ⟨n, pp, a, es, ep, ns, r1.int_of, rfl, upd_same, by rw [upd_ne ne]; exact g4, by rw [l1, Array.length_toList], fun i e he => l2 i e (by rw [Array.getElem?_toList]; exact he), ?_⟩
  exact ((p.ext W1 x1).ext W2 x2) _ _ hR ρ2 _ _ (ext_new hp) W3 .bl
theorem de_notVals {a e : Expr} {wa we : WE} {apos cpos pos : Pos} (hc : X.calm = true) (ha : PE X a (dE X wa)) (he : PE X e (dE X we)) (hbase : attributeBase e "values" X.env (eval e X.env) = eval e X.env := by rfl) (hline : (apos.endLine == cpos.line) = true := by rfl)
    (hm : behindInMarks .NotIn (.Call (.Attribute e "values" apos) [] [] cpos) = false := by first | exact nomark _ | rfl) : PE X (.Compare a [.NotIn] [.Call (.Attribute e "values" apos) [] [] cpos] pos) (dE X (wNotVals wa we)) :=
  PE.imp (pe_cmpR (op_notInVals hc) ha (pe_valsX he hbase hline) hm) fun _ _ _ => vals_pass
theorem dt_notVals {a e : Expr} {wa we : WE} {apos cpos pos : Pos} (hc : X.calm = true) (ha : PE X a (dE X wa)) (he : PE X e (dE X we)) (hbase : attributeBase e "values" X.env (eval e X.env) = eval e X.env := by rfl) (hline : (apos.endLine == cpos.line) = true := by rfl)
    (hm : behindInMarks .NotIn (.Call (.Attribute e "values" apos) [] [] cpos) = false := by first | exact nomark _ | rfl) : PT X (.Compare a [.NotIn] [.Call (.Attribute e "values" apos) [] [] cpos] pos) (dT X (wTest (wNotVals wa we))) :=
  PT.imp (pt_cmpR (op_notInVals hc) ha (pe_valsX he hbase hline) hm) fun _ _ _ => test_pass fun _ _ _ => vals_pass
end
section
variable {τ : DEnv} {S : Sto} {R : DQ} {wa we : WE}
@[simp ↓] theorem wNotVals_ap : wNotVals wa we τ S R = wa τ S fun d1 S1 => we τ S1 fun d2 S2 => ∃ (n : Int) (l ep : Nat) (kvs : List (D × D)) (ns : List Int), d1 = .int n ∧ d2 = .loc l ∧ S2[l]? = some (.dct ep kvs) ∧ kvs.map (·.2) = ns.map D.int ∧ R (.bl (!decide (n ∈ ns))) S2 := rfl
end
end Dl

namespace Dl
open PySem L2 PyProof.Rows PySem.Spec

/-! ## sorted(x, key=f), f a def of the text that gives a list of plain values -/
/-- keys that are lists, and what stands in them -/
inductive KLs (S : Sto) : List D → List (List D) → Prop
  | nil : KLs S [] []
  | cons {l : Nat} {ds : List D} {ks : List D} {kss : List (List D)} : S[l]? = some (.lst ds) → KLs S ks kss → KLs S (.loc l :: ks) (ds :: kss)
theorem KLs.snoc {S : Sto} {ks : List D} {kss : List (List D)} {l : Nat} {ds : List D} (h : KLs S ks kss) (e : S[l]? = some (.lst ds)) : KLs S (ks ++ [.loc l]) (kss ++ [ds]) := by
  induction h with
  | nil => exact .cons e .nil
  | cons a _ ih => exact .cons a ih
theorem KLs.keep {S S' : Sto} {ks : List D} {kss : List (List D)} (h : KLs S ks kss) (k : ∀ (l : Nat) (ds : List D), S[l]? = some (O.lst ds) → S'[l]? = some (O.lst ds)) : KLs S' ks kss := by
  induction h with
  | nil => exact .nil
  | cons a _ ih => exact .cons (k _ _ a) ih
theorem KLs.len {S : Sto} {ks : List D} {kss : List (List D)} (h : KLs S ks kss) : ks.length = kss.length := by
  induction h with
  | nil => rfl
  | cons _ _ ih => rw [List.length_cons, List.length_cons, ih]
structure SrtL (kss : List (List D)) : Prop where
  plain : ∀ ks ∈ kss, ∀ d ∈ ks, plainD 90 d = true
  cmp : ∀ ks ∈ kss, ∀ cs ∈ kss, ∀ d ∈ ks, ∀ c ∈ cs, ∃ b, ltD d c = some b
def keyFinL (xs : List D) (R : DQ) (ks : List D) (S : Sto) : Prop := ∃ kss : List (List D), KLs S ks kss ∧ kss.length = xs.length ∧ SrtL kss ∧ ∀ ps : List (D × D), ps.Perm ((kss.map D.tup).zip xs) → ps.Pairwise (fun p q => ltT q.1 p.1 = false) → R (.loc S.length) (S ++ [.lst (ps.map (·.2))])
def wSortKL (sp : DSp) (wr : WA) : WE := fun τ S R => wr τ S fun ds S1 => ∃ d xs, ds = [d] ∧ srcD S1 d = some xs ∧ keyGo sp (keyFinL xs R) xs [] S1
/-- a list of values at which the items ds stand -/
def LsV (h : Heap) (ds : List D) (u : Value) : Prop := ∃ a xs, u = Value.ref a ∧ h.IsList a xs ∧ PlVs h ds xs.toList
theorem isList_inj {h : Heap} {a : Addr} {us ws : Array Value} (x : h.IsList a us) (y : h.IsList a ws) : us = ws := by
  obtain ⟨o, h1, _, n, h2⟩ := x
  obtain ⟨o', h3, _, n', h4⟩ := y
  rw [h1] at h3
  cases h3
  rw [h2] at h4
  cases h4
  rfl
theorem LsV.inj {h : Heap} {ds cs : List D} {u : Value} (x : LsV h ds u) (y : LsV h cs u) : ds = cs := by
  obtain ⟨a, xs, rfl, h1, h2⟩ := x
  obtain ⟨b, ys, e, h3, h4⟩ := y
  cases e
  cases isList_inj h1 h3
  exact h2.inj h4
noncomputable def rdL (h : Heap) (u : Value) : D := by
  classical
  exact if q : ∃ ds, LsV h ds u then .tup q.choose else .tup []
theorem rdL_eq {h : Heap} {ds : List D} {u : Value} (x : LsV h ds u) : rdL h u = .tup ds := by
  have q : ∃ ds, LsV h ds u := ⟨ds, x⟩
  unfold rdL
  rw [dif_pos q, q.choose_spec.inj x]
theorem rdL_pure (h : Heap) (u : Value) : pureD (rdL h u) = true := by
  unfold rdL
  split
  · rename_i q
    obtain ⟨a, xs, _, _, h4⟩ := q.choose_spec
    exact h4.pure
  · rfl
inductive LsVs (h : Heap) : List (List D) → List Value → Prop
  | nil : LsVs h [] []
  | cons {ds : List D} {u : Value} {kss : List (List D)} {us : List Value} : LsV h ds u → LsVs h kss us → LsVs h (ds :: kss) (u :: us)
theorem rdL_all {h : Heap} : ∀ {kss : List (List D)} {us : List Value}, LsVs h kss us → us.map (rdL h) = kss.map D.tup ∧ ∀ u ∈ us, ∃ ds ∈ kss, LsV h ds u
  | _, _, .nil => ⟨rfl, by simp⟩
  | _, _, .cons r t => by
    obtain ⟨h1, h2⟩ := rdL_all t
    refine ⟨by rw [List.map_cons, h1, rdL_eq r, List.map_cons], fun u hu => ?_⟩
    rcases List.mem_cons.mp hu with rfl | hu
    · exact ⟨_, List.mem_cons_self, r⟩
    · obtain ⟨ds, h3, h4⟩ := h2 u hu
      exact ⟨ds, List.mem_cons_of_mem _ h3, h4⟩
section
variable {X : Cx} {pins : List (Addr × Obj)} {σ : L2.St} {H : Hp} {s : Shared} {ρ : List Addr} {S : Sto}
theorem lsVs_of (I : L2.Inv X pins σ H s) (W : XW X ρ S H) {ks : List D} {kss : List (List D)} (hp : ∀ ks ∈ kss, ∀ d ∈ ks, plainD 90 d = true) (h : KLs S ks kss) : ∀ {vs : List V} {us : List Value}, VRs X.K ρ H ks vs → Vals vs us → LsVs s.heap kss us := by
  induction h with
  | nil =>
    intro vs us r1 r2
    cases r1.nil_of
    cases r2
    exact .nil
  | cons a _ ih =>
    intro vs us r1 r2
    unfold VRs at r1
    obtain ⟨v, vr, rfl, g1, g2⟩ := r1
    cases r2 with
    | cons q1 q2 =>
    refine .cons ?_ (ih (fun ks hk => hp ks (List.mem_cons_of_mem _ hk)) g2 q2)
    obtain ⟨b, h3, rfl⟩ := g1.loc_of
    obtain ⟨vs, h4, h2⟩ := W.obj _ b _ h3 a
    obtain ⟨its, rv, ⟨o, n, ho, hc, _, hd⟩, hz⟩ := I.list (.inl (.inl h4))
    exact ⟨b, its.toArray, q1, ⟨o, ho, hc, n, hd⟩, plVs_of I 90 _ _ _ (plains_of (hp _ List.mem_cons_self)) h2 (by simpa using rv)⟩
end
/-- lists compared -/
theorem PlVs.len {h : Heap} : ∀ {ds : List D} {us : List Value}, PlVs h ds us → ds.length = us.length
  | _, _, .nil => rfl
  | _, _, .cons _ t => by rw [List.length_cons, List.length_cons, t.len]
theorem PlVs.ix {h : Heap} : ∀ {ds : List D} {us : List Value}, PlVs h ds us → ∀ (j : Nat) (hj : j < us.length), PlV h (ds.getD j .non) us[j]
  | _, _, .cons r t, 0, _ => r
  | _, _, .cons r t, j + 1, hj => t.ix j (by simpa using hj)
theorem puresD_mem : ∀ {ds : List D} {d : D}, puresD ds = true → d ∈ ds → pureD d = true
  | c :: ds, d, h, hm => by
    rw [puresD, Bool.and_eq_true] at h
    rcases List.mem_cons.mp hm with rfl | hm
    · exact h.1
    · exact puresD_mem h.2 hm
theorem firstLt_lts {ds cs : List D} (hd : puresD ds = true) (hc : puresD cs = true) : ∀ (n i : Nat), i + n = min ds.length cs.length →
    SeqAt.firstLt (fun j => decide (ds.getD j .non = cs.getD j .non)) (fun j => ltT (ds.getD j .non) (cs.getD j .non)) (decide (ds.length < cs.length)) (List.range' i n) = (cmpTs (ds.drop i) (cs.drop i) == .lt)
  | 0, i, hi => by
    show decide (ds.length < cs.length) = _
    rcases Nat.lt_or_ge ds.length cs.length with h | h
    · have e1 : ds.drop i = [] := List.drop_of_length_le (by omega)
      have e2 : i < cs.length := by omega
      rw [e1, List.drop_eq_getElem_cons e2, decide_eq_true h]
      rfl
    · have e1 : cs.drop i = [] := List.drop_of_length_le (by omega)
      rw [e1, decide_eq_false (by omega)]
      cases ds.drop i <;> rfl
  | n + 1, i, hi => by
    have h1 : i < ds.length := by omega
    have h2 : i < cs.length := by omega
    have g1 : ds.getD i .non = ds[i] := by rw [List.getD_eq_getElem?_getD, List.getElem?_eq_getElem h1]; rfl
    have g2 : cs.getD i .non = cs[i] := by rw [List.getD_eq_getElem?_getD, List.getElem?_eq_getElem h2]; rfl
    have p1 := puresD_mem hd (List.getElem_mem h1)
    have p2 := puresD_mem hc (List.getElem_mem h2)
    rw [List.range'_succ, List.drop_eq_getElem_cons h1, List.drop_eq_getElem_cons h2, cmpTs]
    have hq := cmpT_eq ds[i] cs[i] p1 p2
    by_cases h : ds[i] = cs[i]
    · rw [SeqAt.firstLt_yes (by rw [g1, g2]; exact decide_eq_true h), hq.mpr h]
      exact firstLt_lts hd hc n (i + 1) (by omega)
    · rw [SeqAt.firstLt_no (by rw [g1, g2]; exact decide_eq_false h)]
      show ltT (ds.getD i .non) (cs.getD i .non) = _
      rw [g1, g2, ltT]
      have hne : cmpT ds[i] cs[i] ≠ .eq := fun e => h (hq.mp e)
      cases e : cmpT ds[i] cs[i] with
      | eq => exact absurd e hne
      | lt => rfl
      | gt => rfl
section
variable {prog : Program} {w : World} {A : Around} {E : Value → Shared → Prop} {s : Shared}
theorem srt_cmpL {rd : Value → D} {us : List Value} {kss : List (List D)} (m1 : us.map (rdL s.heap) = kss.map D.tup) (S : SrtL kss) (h : ∀ u ∈ us, ∃ ds ∈ kss, LsV s.heap ds u) (hu : A.units + 100 < cLine) (h2 : 2 ≤ us.length) :
    ∃ κ, (∀ (Q : SortKind → Shared → Prop) (E : Value → Shared → Prop), Q κ s → wpAny (model prog w) A (keyKind' us.toArray) Q E s) ∧ SrtO.Cmp prog w A s κ (fun p => p.1 ∈ us) (fun p q => ltT (rdL s.heap p.1) (rdL s.heap q.1)) := by
  refine ⟨oneType', fun Q E hq => PySem.W.kas_kind (T := .type "list") h2 (fun v hv => ?_) (by first | decide +kernel | rfl | decide) (by first | decide +kernel | rfl | decide) hq, fun p q hm hm' => ?_⟩
  · obtain ⟨ds, _, a, xs, rfl, ⟨o, ho, hc, n, hd⟩, _⟩ := h v hv
    exact hc ▸ (PySem.W.Looks.ld ho).andThen .now
  · obtain ⟨ds, hds, a, xs, ea, la, pa⟩ := h _ hm
    obtain ⟨cs, hcs, b, ys, eb, lb, pb⟩ := h _ hm'
    have r1 := rdL_eq ⟨a, xs, ea, la, pa⟩
    have r2 := rdL_eq ⟨b, ys, eb, lb, pb⟩
    show wpAny (model prog w) A (keyLt' oneType' p.1 q.1) (fun r s' => s' = s ∧ r = ltT (rdL s.heap p.1) (rdL s.heap q.1)) (fun _ _ => False) s
    rw [r1, r2, ea, eb, keyLt'_oneType, oneLt'_eq]
    simp only [if_true]
    refine wpAny_bind (wpAny_cRoomFor (by omega) ?_)
    have la' := la
    obtain ⟨o, ho, hc, n, hd⟩ := la'
    have n1 : ds.length = xs.size := by simpa using pa.len
    have n2 : cs.length = ys.size := by simpa using pb.len
    have mem : ∀ (zs : List D) (j : Nat), j < zs.length → zs.getD j .non ∈ zs := fun zs j hj => by
      rw [List.getD_eq_getElem?_getD, List.getElem?_eq_getElem hj]
      exact List.getElem_mem hj
    have at1 : ∀ (j : Nat) (hj : j < xs.size), PlV s.heap (ds.getD j .non) xs[j] := fun j hj => by
      have := pa.ix j (by simpa using hj)
      simpa using this
    have at2 : ∀ (j : Nat) (hj : j < ys.size), PlV s.heap (cs.getD j .non) ys[j] := fun j hj => by
      have := pb.ix j (by simpa using hj)
      simpa using this
    refine wpAny_bind (wpAny_callSpecialIfBound?_slot (T := "list") ⟨o, ho, hc⟩ PySem.F.slot_list_lt (SeqAt.call_list_lt (e := fun j => decide (ds.getD j .non = cs.getD j .non)) (r := fun j => ltT (ds.getD j .non) (cs.getD j .non)) la lb (fun j j1 j2 => ?_) (fun j j1 j2 hj => ?_) ?_))
    · obtain ⟨k, hk, hdp⟩ := key_plain 90 _ (S.plain ds hds _ (mem ds j (by omega)))
      exact plV_eq (at1 j j1) (at2 j j2) hk (by show A.units + 1 + _ < cLine; omega)
    · have m1 : ds.getD j .non ∈ ds := mem _ _ (by omega)
      have m2 : cs.getD j .non ∈ cs := mem _ _ (by omega)
      obtain ⟨k, hk, hdp⟩ := key_plain 90 _ (S.plain ds hds _ m1)
      obtain ⟨b, hb⟩ := S.cmp ds hds cs hcs _ m1 _ m2
      have := ltD_T _ _ b (at1 j j1).pure (at2 j j2).pure hb
      rw [this] at hb
      exact plV_lt _ _ k _ _ _ _ hb hk (at1 j j1) (at2 j j2) (by show A.units + 1 + _ < cLine; omega)
    · refine wpAny_truthy_bool ⟨rfl, ?_⟩
      have := firstLt_lts pa.pure pb.pure (min ds.length cs.length) 0 (Nat.zero_add _)
      rw [List.drop_zero, List.drop_zero, n1, n2, ← List.range_eq_range'] at this
      rw [this]
      rfl
end
section
variable {X : Cx} {pins : List (Addr × Obj)} {σ : L2.St} {ρ : List Addr} {S : Sto} {H : Hp} {s : Shared} {a kS e1 : Nat}
theorem key_tailG {A : Around} {E : Value → Shared → Prop} {xs : List D} {vs : List V} {ws : List Value} {R : DQ} {Q : VK} {P : PySem.Fin → Shared → Prop} {ρ' : List Addr} {S' : Sto} {H' : Hp} {kA : Array Value} {e : Nat} {acc : List D} {kvs : List V} {st : SortSt}
    (I : L2.Inv X pins σ H' s) (x : Ext ρ H ρ' H') (W0 : XW X ρ S H) (W : XW X ρ' S' H') (h1 : H' a = some (.ext (LstObj a #[] e1))) (h2 : H' kS = some (.ext (LstObj kS kA e))) (h3 : a ∉ ρ') (h4 : kS ∉ ρ') (ha : H a = none) (hk : H kS = none) (hak : kS ≠ a)
    (r1 : VRs X.K ρ H xs vs) (r2 : Vals vs ws) (hz : ws.length ≤ sizeLine) (h5 : VRs X.K ρ' H' acc kvs) (h6 : Vals kvs kA.toList) {rd : Value → D} {kd : List D} (m1 : kA.toList.map rd = kd) (hkl : kd.length = xs.length) (hf : failedOf st = none)
    (hp : (arrOf st).toList.Perm (kA.zip ws.toArray).toList) (hs : (arrOf st).toList.Pairwise (fun p q => ltT (rd q.1) (rd p.1) = false))
    (q : ∀ ps : List (D × D), ps.Perm (kd.zip xs) → ps.Pairwise (fun p q => ltT q.1 p.1 = false) → R (.loc S'.length) (S' ++ [.lst (ps.map (·.2))])) (p : PassE X ρ H R Q)
    (fin : ∀ s', EP X pins σ Q (.ref a) s' → P (.done (.ret .none)) s') : wpAny (model X.prog X.w) A (ksk_tail a false e1 (.ref kS) st) P E s := by
  have q1 : kvs.length = kA.size := by have := h6.length; simpa using this
  have q2 := h5.length
  have q3 := r1.length
  have q4 := r2.length
  have hl : kvs.length = xs.length := by
    have z := congrArg List.length m1
    rw [List.length_map] at z
    have z2 := h6.length
    omega
  have hks : kA.size = ws.length := by omega
  have hzip : (kA.zip ws.toArray).toList = kA.toList.zip ws := by simp [Array.toList_zip]
  rw [hzip] at hp
  have hsnd : (kA.toList.zip ws).map (·.2) = ws := map_zip_snd (by simp [hks])
  have hfst : (kA.toList.zip ws).map (fun q => rd q.1) = kd := by
    rw [← m1]
    have : (kA.toList.zip ws).map (fun q => rd q.1) = ((kA.toList.zip ws).map (·.1)).map (rd) := by rw [List.map_map]; rfl
    rw [this, List.map_fst_zip (by simp [hks])]
  obtain ⟨ps, k1, k2, vs', k3, k4⟩ := perm_vals2 (rd := rd) hp xs vs (r1.ext W0.sep x) (by rw [hsnd]; exact r2)
  rw [hfst] at k1
  have hsz : (arrOf st).size = ws.length := by
    have := hp.length_eq
    simp [hks] at this
    omega
  have ob : s.heap.get? kS = some (seqObj "list" kA e) := (I.hok kS _ h2).1
  have oa : s.heap.get? a = some (seqObj "list" #[] e1) := (I.hok a _ h1).1
  unfold ksk_tail
  dsimp only
  refine wpAny_bind (listUpdate_at ob rfl ?_ (by omega) (Nat.zero_le _))
  refine wpAny_bind (wpAny_letGo ?_)
  have s1 := Heap.SameBut.update s.heap kS (Obj.mapSeq fun _ => (#[] : Array Value))
  obtain ⟨e', he'⟩ : ∃ e', (s.heap.update kS (Obj.mapSeq fun _ => (#[] : Array Value))).get? kS = some (seqObj "list" #[] e') := ⟨_, get?_update_seq ob (fun _ => #[])⟩
  have oa1 : (s.heap.update kS (Obj.mapSeq fun _ => (#[] : Array Value))).get? a = some (seqObj "list" #[] e1) := (s1.2 a hak.symm).trans oa
  refine wpAny_bind (seqEpoch_at oa1 rfl ?_)
  have I1 : L2.Inv X pins σ (upd H' kS (.ext (LstObj kS #[] e'))) { s with heap := s.heap.update kS (Obj.mapSeq fun _ => (#[] : Array Value)) } := d_write (t' := s.toks) I (by rw [h2]; exact True.intro) s1 ⟨_, he'⟩ (lst_ok he')
  have W1 : XW X ρ' S' (upd H' kS (.ext (LstObj kS #[] e'))) := W.aside h4 h2 (fun vs q => by cases q) fun x y q => by cases q
  have h1' : upd H' kS (.ext (LstObj kS #[] e')) a = some (.ext (LstObj a #[] e1)) := by rw [upd_ne hak.symm]; exact h1
  have vx1 : VX ρ' H' ρ' (upd H' kS (.ext (LstObj kS #[] e'))) := vx_upd h2 (fun vs q => by cases q) fun x y q => by cases q
  have x1 : Ext ρ H ρ' (upd H' kS (.ext (LstObj kS #[] e'))) := ext_aside x hk
  have k3' := VRs.vx vx1 _ _ k3
  generalize upd H' kS (.ext (LstObj kS #[] e')) = H1 at I1 W1 h1' x1 k3'
  have hout : ((arrOf st).map (·.2)).size = ws.length := by rw [Array.size_map]; exact hsz
  obtain ⟨e2, he2⟩ : ∃ e2, ((s.heap.update kS (Obj.mapSeq fun _ => (#[] : Array Value))).update a (Obj.mapSeq fun _ => (arrOf st).map (·.2))).get? a = some (seqObj "list" ((arrOf st).map (·.2)) e2) := ⟨_, get?_update_seq oa1 fun _ => (arrOf st).map (·.2)⟩
  refine wpAny_bind (listUpdate_at oa1 rfl ?_ (Nat.zero_le _) (by show ((arrOf st).map (·.2)).size ≤ sizeLine + 1; omega))
  rw [hf]
  simp only [bne_self_eq_false, Bool.false_eq_true, if_false]
  refine wpAny_pure (fin _ ?_)
  have vx2 : VX ρ' H1 ρ' (upd H1 a (.lst vs')) := vx_upd h1' (fun vs q => by cases q) fun x y q => by cases q
  have vx3 : VX ρ' (upd H1 a (.lst vs')) (ρ' ++ [a]) (upd H1 a (.lst vs')) := ⟨fun l b hh => by
    rw [List.getElem?_append_left (List.getElem?_eq_some_iff.mp hh).1]
    exact hh, fun _ _ hh => hh, fun _ _ _ hh => hh⟩
  have hlen : vs'.length ≤ sizeLine := by
    rw [k4.length, List.length_map, Array.length_toList, hsz]
    exact hz
  have eo : ((arrOf st).toList.map (·.2)).toArray = (arrOf st).map (·.2) := by rw [← Array.toList_map, Array.toArray_toList]
  refine ⟨.ref a, upd H1 a (.lst vs'), d_write (s := { s with heap := s.heap.update kS (Obj.mapSeq fun _ => (#[] : Array Value)) }) (t' := s.toks) I1 (by rw [h1']; exact True.intro) (Heap.SameBut.update ..) ⟨_, he2⟩ ⟨hlen, _, e2, k4, by rw [eo]; exact he2⟩, rfl, ?_⟩
  have hps : ps.Pairwise (fun p q => ltT q.1 p.1 = false) := by
    have h : ((arrOf st).toList.map fun q : Keyed => rd q.1).Pairwise (fun p q => ltT q p = false) := List.pairwise_map.mpr hs
    rw [← k2] at h
    exact List.pairwise_map.mp h
  refine p _ _ (q ps k1 hps) (ρ' ++ [a]) _ _ ⟨?_, fun b o hb nb => ?_⟩ ((W1.aside h3 h1' (fun vs q => by cases q) fun x y q => by cases q).adopt h3 ⟨vs', upd_same, VRs.vx vx3 _ _ (VRs.vx vx2 _ _ k3')⟩) (.loc (by rw [← W.len]; exact List.getElem?_concat_length ..))
  · obtain ⟨more, e3, e4⟩ := x.pre
    refine ⟨more ++ [a], by rw [e3, List.append_assoc], fun b hb => ?_⟩
    rcases List.mem_append.mp hb with z | z
    · exact e4 b z
    · rw [List.mem_singleton.mp z]; exact ha
  · have hba : b ≠ a := fun z => by rw [z, ha] at hb; cases hb
    rw [upd_ne hba]
    exact x1.keep b o hb nb
theorem key_endL {A : Around} {E : Value → Shared → Prop} {xs : List D} {vs : List V} {ws : List Value} {R : DQ} {Q : VK} {P : PySem.Fin → Shared → Prop} {ρ' : List Addr} {S' : Sto} {H' : Hp} {kA : Array Value} {e : Nat} {acc : List D} {kvs : List V}
    (hu : A.units + 100 < cLine) (I : L2.Inv X pins σ H' s) (x : Ext ρ H ρ' H') (W0 : XW X ρ S H) (W : XW X ρ' S' H') (h1 : H' a = some (.ext (LstObj a #[] e1))) (h2 : H' kS = some (.ext (LstObj kS kA e))) (h3 : a ∉ ρ') (h4 : kS ∉ ρ') (ha : H a = none) (hk : H kS = none) (hak : kS ≠ a)
    (r1 : VRs X.K ρ H xs vs) (r2 : Vals vs ws) (hz : ws.length ≤ sizeLine) (h5 : VRs X.K ρ' H' acc kvs) (h6 : Vals kvs kA.toList) (hF : keyFinL xs R acc S') (p : PassE X ρ H R Q)
    (fin : ∀ s', EP X pins σ Q (.ref a) s' → P (.done (.ret .none)) s') : wpAny (model X.prog X.w) A (ksk_end a false ws.toArray e1 (.ref kS) kA) P E s := by
  obtain ⟨kss, hkl, hkn, hS, q⟩ := hF
  have hl := hkl.len
  have q1 : kvs.length = kA.size := by have := h6.length; simpa using this
  have q2 := h5.length
  have q3 := r1.length
  have q4 := r2.length
  have hks : kA.size = ws.length := by omega
  have pl := lsVs_of I W hS.plain hkl h5 h6
  obtain ⟨m1, m2⟩ := rdL_all pl
  unfold ksk_end
  dsimp only
  simp only [Bool.false_eq_true, if_false, List.size_toArray]
  by_cases hn : ws.length < 2
  · simp only [if_pos hn]
    refine wpAny_bind (wpAny_pure ?_)
    rw [StateT.run_pure]
    refine wpAny_bind (wpAny_pure ?_)
    dsimp only
    refine key_tailG (rd := rdL s.heap) (kd := kss.map D.tup) (m1 := m1) (hkl := by rw [List.length_map]; exact hkn) (st := SortSt.mk' general' (kA.zip ws.toArray) #[] 7 none) I x W0 W h1 h2 h3 h4 ha hk hak r1 r2 hz h5 h6 rfl (List.Perm.refl _) ?_ q p fin
    have hlen : (kA.zip ws.toArray).toList.length < 2 := by simp; omega
    show (kA.zip ws.toArray).toList.Pairwise _
    match (kA.zip ws.toArray).toList, hlen with
    | [], _ => exact .nil
    | [_], _ => exact List.pairwise_singleton _ _
    | _ :: _ :: _, h => simp at h; omega
  · simp only [if_neg hn]
    obtain ⟨κ, hkind, hT⟩ := srt_cmpL (prog := X.prog) (w := X.w) (A := A) (s := s) (rd := rdL s.heap) (us := kA.toList) (kss := kss) m1 hS m2 hu (by simp; omega)
    have hkind' := hkind (fun k s' => k = κ ∧ s' = s) E ⟨rfl, rfl⟩
    rw [Array.toArray_toList] at hkind'
    refine wpAny_bind (wpAny_mono hkind' (fun k s' hk' => ?_) fun _ _ z => z)
    obtain ⟨rfl, rfl⟩ := hk'
    have hall : SrtO.AllL (fun p : Keyed => p.1 ∈ kA.toList) (kA.zip ws.toArray).toList := fun p hm => by
      have : p ∈ kA.toList.zip ws := by simpa [Array.toList_zip] using hm
      exact mem_zip_fst this
    have O : SrtO.Swo (fun p q : Keyed => ltT (rdL s'.heap p.1) (rdL s'.heap q.1)) := ⟨fun x y => (swo_D (rdL_pure s'.heap)).asym x.1 y.1, fun x y z => (swo_D (rdL_pure s'.heap)).tr x.1 y.1 z.1⟩
    refine wpAny_bind (wpAny_mono (SrtO.wpS_sortO (st0 := SortSt.mk' k (kA.zip ws.toArray) #[] 7 none) (Q := fun _ st' => SrtO.Srtd (fun p q : Keyed => ltT (rdL s'.heap p.1) (rdL s'.heap q.1)) (arrOf st').toList ∧ SrtO.Stb (fun p q : Keyed => ltT (rdL s'.heap p.1) (rdL s'.heap q.1)) (arrOf st').toList (kA.zip ws.toArray).toList ∧ failedOf st' = none) O hT rfl hall rfl rfl fun st' a1 a2 a3 => ⟨a1, a2, a3⟩) ?_ fun _ _ z => z)
    rintro ⟨⟨⟩, st'⟩ s2 ⟨rfl, hp1, hp2, hf⟩
    dsimp only
    exact key_tailG (rd := rdL s2.heap) (kd := kss.map D.tup) (m1 := m1) (hkl := by rw [List.length_map]; exact hkn) I x W0 W h1 h2 h3 h4 ha hk hak r1 r2 hz h5 h6 hf hp2.perm hp1 q p fin
end
section
variable {X : Cx} {pins : List (Addr × Obj)} {σ : L2.St} {ρ : List Addr} {S : Sto} {H : Hp} {s : Shared}
/-- list.sort of a new list of the items ws, by the keys that the def at f makes -/
theorem key_sortL {A : Around} {E : Value → Shared → Prop} {k : Nat} {f : Addr} {fd : FuncData} {ps : List Str} {sp : DSp} {xs : List D} {vs : List V} {ws : List Value} {R : DQ} {Q : VK} {P : PySem.Fin → Shared → Prop}
    (hA : A.frames = X.A.frames) (F : FnG X.prog X.w X.K X.mg X.base CX0 k f fd ps (spD X.w X.K X.mg sp)) (hr : RoomG k A) (hb : Binds X.K fd ps []) (hu : A.units + 100 < cLine) (I : L2.Inv X pins σ H s) (W : XW X ρ S H)
    (r1 : VRs X.K ρ H xs vs) (r2 : Vals vs ws) (hz : ws.length ≤ sizeLine) (hg : keyGo sp (keyFinL xs R) xs [] S) (p : PassE X ρ H R Q) (fin : ∀ s', EP X pins σ Q (.ref s.heap.objs.size) s' → P (.done (.ret .none)) s') :
    wpAny (model X.prog X.w) A (ksk_tree s.heap.objs.size (.ref f) false) P E { s with heap := s.heap.push (seqObj "list" ws.toArray 0) } := by
  have ho : (s.heap.push (seqObj "list" ws.toArray 0)).get? s.heap.objs.size = some (seqObj "list" ws.toArray 0) := Heap.get?_push_size _ rfl
  have ha0 : H s.heap.objs.size = none := I.hok.fresh (Nat.le_refl _)
  have s1 := Heap.SameBut.update (s.heap.push (seqObj "list" ws.toArray 0)) s.heap.objs.size (Obj.mapSeq fun _ => (#[] : Array Value))
  obtain ⟨e1, ho1⟩ : ∃ e1, ((s.heap.push (seqObj "list" ws.toArray 0)).update s.heap.objs.size (Obj.mapSeq fun _ => (#[] : Array Value))).get? s.heap.objs.size = some (seqObj "list" #[] e1) := ⟨_, get?_update_seq ho fun _ => #[]⟩
  have hsz : ((s.heap.push (seqObj "list" ws.toArray 0)).update s.heap.objs.size (Obj.mapSeq fun _ => (#[] : Array Value))).objs.size = s.heap.objs.size + 1 := by rw [Heap.size_update, size_push']
  have keep1 : ∀ b u, s.heap.get? b = some u → ((s.heap.push (seqObj "list" ws.toArray 0)).update s.heap.objs.size (Obj.mapSeq fun _ => (#[] : Array Value))).get? b = some u := fun b u e =>
    (s1.2 b (Nat.ne_of_lt (Heap.lt_size e))).trans (Heap.get?_push_of_some _ e)
  unfold ksk_tree
  refine wpAny_bind (listItems_at ho rfl ?_)
  refine wpAny_bind (listUpdate_at ho rfl ?_ (by simpa using hz) (Nat.zero_le _))
  refine wpAny_bind (seqEpoch_at ho1 rfl ?_)
  refine wpAny_bind (wpAny_newTuple ?_ (by simpa using hz))
  refine wpAny_bind (wpAny_newList ?_ (Nat.zero_le _))
  refine wpAny_holding ?_
  generalize hh3 : (s.heap.push (seqObj "list" ws.toArray 0)).update s.heap.objs.size (Obj.mapSeq fun _ => (#[] : Array Value)) = h3 at ho1 hsz keep1 ⊢
  have I4 : L2.Inv X pins σ (upd H s.heap.objs.size (.ext (LstObj s.heap.objs.size #[] e1))) { s with heap := h3.push (seqObj "tuple" ws.toArray 0), toks := s.toks } :=
    I.laid (a := s.heap.objs.size) (fun b u e => Heap.get?_push_of_some _ (keep1 b u e)) (Nat.le_refl _) (lst_ok (Heap.get?_push_of_some _ ho1))
  have hkS : (h3.push (seqObj "tuple" ws.toArray 0)).objs.size = s.heap.objs.size + 2 := by rw [size_push', hsz]
  have hk4 : upd H s.heap.objs.size (.ext (LstObj s.heap.objs.size #[] e1)) (h3.push (seqObj "tuple" ws.toArray 0)).objs.size = none := I4.hok.fresh (Nat.le_refl _)
  have hne : (h3.push (seqObj "tuple" ws.toArray 0)).objs.size ≠ s.heap.objs.size := by rw [hkS]; omega
  have hk0 : H (h3.push (seqObj "tuple" ws.toArray 0)).objs.size = none := by rw [upd_ne hne] at hk4; exact hk4
  have W4 : XW X ρ S (upd H s.heap.objs.size (.ext (LstObj s.heap.objs.size #[] e1))) := W.laid ha0
  have I5 : L2.Inv X pins σ (upd (upd H s.heap.objs.size (.ext (LstObj s.heap.objs.size #[] e1))) (h3.push (seqObj "tuple" ws.toArray 0)).objs.size (.ext (LstObj (h3.push (seqObj "tuple" ws.toArray 0)).objs.size #[] 0)))
      { s with heap := (h3.push (seqObj "tuple" ws.toArray 0)).push (seqObj "list" #[] 0), toks := s.toks } :=
    I4.laid (fun b u e => Heap.get?_push_of_some _ e) (Nat.le_refl _) (lst_ok (Heap.get?_push_size _ rfl))
  have W5 := W4.laid (u := .ext (LstObj (h3.push (seqObj "tuple" ws.toArray 0)).objs.size #[] 0)) hk4
  have x4 : Ext ρ H ρ (upd H s.heap.objs.size (.ext (LstObj s.heap.objs.size #[] e1))) := ext_new ha0
  have x5 := ext_aside (u := .ext (LstObj (h3.push (seqObj "tuple" ws.toArray 0)).objs.size #[] 0)) x4 hk0
  show wpAny (model X.prog X.w) A (ksk_rest s.heap.objs.size (.ref f) false ws.toArray e1 (.ref (h3.push (seqObj "tuple" ws.toArray 0)).objs.size)) P E { s with heap := (h3.push (seqObj "tuple" ws.toArray 0)).push (seqObj "list" #[] 0) }
  generalize (h3.push (seqObj "tuple" ws.toArray 0)).objs.size = kS at hk0 hne I5 W5 x5 hk4 ⊢
  generalize hH5 : upd (upd H s.heap.objs.size (.ext (LstObj s.heap.objs.size #[] e1))) kS (.ext (LstObj kS #[] 0)) = H5 at I5 W5 x5
  have g1 : H5 s.heap.objs.size = some (.ext (LstObj s.heap.objs.size #[] e1)) := by rw [← hH5, upd_ne hne.symm, upd_same]
  have g2 : H5 kS = some (.ext (LstObj kS #[] 0)) := by rw [← hH5, upd_same]
  unfold ksk_rest
  refine wpAny_bind (wpAny_rule ?_)
  rw [List.forIn_toArray]
  refine wpAny_bind (key_loop (ρ := ρ) (H := H) (xs := xs) (vs := vs) hA F hr hb W.sep r1 r2 hz ha0 hk0 hne ⟨ρ, S, H5, #[], 0, [], [], I5, x5, W5, g1, g2, W.notin ha0, W.notin hk0, .nil, .nil, rfl, hg⟩ fun s' J => ?_)
  obtain ⟨ρ', S', H', kA, e, acc, kvs, I', x', W', h1, h2, h3', h4, h5, h6, h7, hp⟩ := J.ex
  have ob : s'.heap.get? kS = some (seqObj "list" kA e) := (I'.hok kS _ h2).1
  refine wpAny_bind (listItems_at ob rfl ?_)
  exact key_endL hu I' x' W W' h1 h2 h3' h4 ha0 hk0 hne r1 r2 hz h5 h6 hp p fin
end
section
variable {X : Cx} {pos p p2 kpos : Pos} {e : Expr} {wr : WA} {x : Str} {k : Nat} {sp : DSp}
theorem de_sortKL (F : FnD X.prog X.w X.K X.mg X.base k x sp) (hr : RoomG (k + 2) X.A) (hc : X.calm = true) (hu : X.A.units + 150 < cLine) (hm : X.mg "sorted" = none) (hg : Gl X "sorted") (hgx : Gl X x) (ha : PA X [e] (dA X wr))
    (hdx : (x == ("__debug__" : Str)) = false := by decide)
    (hes : backTo pos (starEach [e] X.env) = (false, eval e X.env) :: backTo pos (starEach [] X.env) := by rfl) (hpl : (backTo pos (starEach [e] X.env)).any (·.1) = false := by rfl)
    (hall : (backToKw pos (keywordEach [⟨some "key", .Name x p2, kpos⟩] X.env)).all (·.1.isSome) = true := by rfl) (hnone : (backToKw pos (keywordEach [⟨some "key", .Name x p2, kpos⟩] X.env)).any (·.1.isNone) = false := by rfl) (hks : (backToKw pos (keywordEach [⟨some "key", .Name x p2, kpos⟩] X.env)).filterMap (·.1) = [Str.ofString "key"] := by rfl) :
    PE X (.Call (.Name "sorted" p) [e] [⟨some "key", .Name x p2, kpos⟩] pos) (dE X (wSortKL sp wr)) := by
  obtain ⟨f, fd, ps, h1, h2, h3, h4⟩ := F.ex
  have hcr : CallRK X (.builtin "sorted") [Str.ofString "key"] (fun vs zs H Q => zs = [V.ref f] ∧ ∃ ρ S d xs R, XW X ρ S H ∧ VRs X.K ρ H [d] vs ∧ srcD S d = some xs ∧ keyGo sp (keyFinL xs R) xs [] S ∧ PassE X ρ H R Q) := by
    intro pins s σ H vs zs us ws Q I r rz ⟨ez, ρ, S, d, xs, R, W, rd, es, hgo, pe⟩
    subst ez
    obtain ⟨v, rfl, rv⟩ := rd.one_of
    obtain ⟨u, rfl, ru⟩ := vals1 r
    obtain ⟨w1, rfl, e1⟩ := vals1 rz
    cases (show w1 = Value.ref f from e1)
    refine call_function_entry_kw kind_sorted plain_sorted entry_sorted (ksk_s1 _ _) ?_
    unfold Builtin.«sorted»
    refine wpAny_bind (m := checkCount "sorted" 1 1 _) (wpAny_pure ?_)
    refine wpAny_bind (col_ok (A := X.A.in1) (I.ok.hd hc) I W rv ru es fun h1' tk ws' vs' hk r1 r2 hz => ?_)
    have I1 : L2.Inv X pins σ H { s with heap := h1', toks := tk } := I.kept hk
    refine wpAny_bind (wpAny_newList ?_ hz)
    have hoL : (h1'.push (seqObj "list" ws'.toArray 0)).get? h1'.objs.size = some (seqObj "list" ws'.toArray 0) := Heap.get?_push_size _ rfl
    show wpAny _ _ _ _ _ { s with heap := h1'.push (seqObj "list" ws'.toArray 0), toks := tk }
    refine wpAny_bind (wpAny_holding (wpAny_call_entry_kw slot_list_sort ⟨_, hoL, rfl⟩ entry_list_sort ?_ (ksk_l1 _ _)))
    show wpAny _ _ (Builtin.«list.sort» ⟨[.ref h1'.objs.size], [(Str.ofString "key", .ref f)]⟩) _ _ _
    rw [ksk_t1]
    refine key_sortL (s := { s with heap := h1', toks := tk }) (A := X.A.in1.in1) rfl h1 ⟨⟨hr.room.hd, ?_, ?_⟩, hr.gd⟩ h4 (by show X.A.units + 1 + 1 + 100 < cLine; omega) I1 W r1 r2 hz hgo pe fun s' q => ⟨_, rfl, wpAny_pure ⟨_, rfl, q⟩⟩
    · have := hr.room.dp
      show X.A.depth + 3 * k + 5 < recursionLimit
      omega
    · have := hr.room.un
      show X.A.units + 1 + 1 + 16 * k + 200 < cLine
      omega
  refine PE.imp (pe_callBK hcr hg hm (by rfl) ha (pk_cons (pe_glob (v := .ref f) hgx h2 rfl hdx) pk_nil) (by decide) (by decide) hes hpl hall hnone hks) fun σ H Q ⟨ρ, τ, S, R, W, er, h, pe⟩ => ?_
  refine ⟨ρ, τ, S, _, W, er, h, fun ds S1 ⟨d, xs, e1, e2, e3⟩ ρ1 H1 vs x1 W1 r => ?_⟩
  subst e1
  exact ⟨rfl, ρ1, S1, d, xs, R, W1, r, e2, e3, pe.ext W1 x1⟩
end
section
variable {τ : DEnv} {S : Sto} {R : DQ} {sp : DSp} {wr : WA}
@[simp ↓] theorem wSortKL_ap : wSortKL sp wr τ S R = wr τ S fun ds S1 => ∃ d xs, ds = [d] ∧ srcD S1 d = some xs ∧ keyGo sp (keyFinL xs R) xs [] S1 := rfl
/-- each key a new list; the lists that stood stay as they are -/
theorem keyGoL_run {xs acc : List D} {kss : List (List D)} {fin : List D → Sto → Prop} (f : D → List D) (I : Sto → Prop) (hI : I S) (ha : KLs S acc kss)
    (hs : ∀ d S' (N : DQ), d ∈ xs → I S' → (∀ l S'', I S'' → S''[l]? = some (O.lst (f d)) → (∀ (l' : Nat) (ds : List D), S'[l']? = some (O.lst ds) → S''[l']? = some (O.lst ds)) → N (.loc l) S'') → sp [d] S' N)
    (h0 : ∀ S' ks, I S' → KLs S' ks (kss ++ xs.map f) → fin ks S') : keyGo sp fin xs acc S := by
  induction xs generalizing acc kss S with
  | nil => exact h0 S acc hI (by simpa using ha)
  | cons d xs ih =>
    unfold keyGo
    refine hs d S _ List.mem_cons_self hI fun l S'' I'' e k => ih (kss := kss ++ [f d]) I'' ((ha.keep k).snoc e) (fun c S' N hc => hs c S' N (List.mem_cons_of_mem _ hc)) fun S' ks I' hk => h0 S' ks I' (by simpa using hk)
end
end Dl

namespace Dl
open PySem L2 PyProof.Rows PySem.Spec

/-! ## xs.remove(x), plain values, x among them -/
def dRemove : DMt := fun d ds S R => ∃ l xs y j, d = .loc l ∧ ds = [y] ∧ S[l]? = some (.lst xs) ∧ plainD 90 y = true ∧ (∀ x ∈ xs, plainD 90 x = true) ∧ xs[j]? = some y ∧ (∀ m, m < j → xs[m]? ≠ some y) ∧ R .non (S.set l (.lst (xs.eraseIdx j)))
section
variable {X : Cx}
theorem md_remove (hu : X.A.units + 150 < cLine) : MtR X "list.remove" (rMD X dRemove) := by
  intro pins s σ H x us0 v us Q I rx rs ⟨ρ, S, d, ds, R, W, r1, r2, ⟨l, xs, y, j, e1, e2, g, hy, hx, hj, hno, q⟩, p⟩
  subst e1 e2
  obtain ⟨a, g1, rfl⟩ := r1.loc_of
  cases (show v = Value.ref a from rx)
  obtain ⟨vs, h3, h4⟩ := W.obj l a _ g1 g
  obtain ⟨yv, rfl, ry⟩ := r2.one_of
  obtain ⟨u, rfl, ru⟩ := vals1 rs
  obtain ⟨z, its, n, r, hl, e⟩ := I.lstM h3
  have pl := plVs_of I 90 xs vs its (plains_of hx) h4 r
  have py := plV_of I 90 y yv u hy ry ru
  obtain ⟨m1, m2⟩ := rdV_all pl
  have hat : ∀ m (hm : m < its.length), xs[m]? = some (rdV s.heap its[m]) := fun m hm => by
    rw [← m1, List.getElem?_map, List.getElem?_eq_getElem hm]
    rfl
  have hlen : xs.length = its.length := pl.len
  have hj' : j < its.length := by
    have := (List.getElem?_eq_some_iff.mp hj).1
    omega
  refine call_meets F.slot_list_remove ⟨_, e, rfl⟩ F.entry_list_remove (F.args_list_remove_2 _ _)
    (PySem.SeqAt.list_removeAt a its.toArray n none #[] u (fun w => decide (rdV s.heap w = y)) j (by simpa using hj') ?_ ?_ (by rw [List.size_toArray, ← hlen]; have := h4.length; omega)) ⟨e, ?_, ?_⟩
  · have := hat j hj'
    rw [hj] at this
    simpa using (Option.some.inj this).symm
  · intro m hm hmj
    have hm' : m < its.length := by simpa using hm
    have := hat m hm'
    have h2 := hno m hmj
    rw [this] at h2
    exact decide_eq_false fun e => h2 (by simpa using e)
  · intro w hw
    have hw' : w ∈ its := by simpa using hw
    have hm : rdV s.heap w ∈ xs := by rw [← m1]; exact List.mem_map_of_mem hw'
    obtain ⟨k, hk, hd⟩ := key_plain 90 _ (hx _ hm)
    exact plV_eq (m2 w hw') py hk (by show X.A.units + 1 + k.depth < cLine; omega)
  · obtain ⟨x1, W1⟩ := write_lst (xs := xs) W g1 h3 ((h4.take j).append (h4.drop (j + 1)))
    refine ⟨.non, _, I.lset (its' := its.take j ++ its.drop (j + 1)) h3 e ?_ ((r.take j).append (r.drop (j + 1))) ?_, rfl, p _ _ (by rw [List.eraseIdx_eq_take_drop_succ] at q; exact q) ρ _ _ x1 W1 .non⟩
    · rw [List.eraseIdxIfInBounds_toArray, List.eraseIdx_eq_take_drop_succ]
    · rw [List.length_append, List.length_take, List.length_drop]
      omega
end
theorem dRemove_loc {l j : Nat} {xs : List D} {y : D} {S : Sto} {R : DQ} (h1 : S[l]? = some (.lst xs)) (hy : plainD 90 y = true) (hx : ∀ x ∈ xs, plainD 90 x = true) (hj : xs[j]? = some y) (hn : ∀ m, m < j → xs[m]? ≠ some y) (q : R .non (S.set l (.lst (xs.eraseIdx j)))) : dRemove (.loc l) [y] S R := ⟨l, xs, y, j, rfl, rfl, h1, hy, hx, hj, hn, q⟩
end Dl

namespace Dl
open PySem L2 PyProof.Rows PySem.Spec

/-! ## d.pop(k), any key that is there -/
section
variable {prog : Program} {w : World} {A : Around} {E : Value → Shared → Prop} {s : Shared} {d : Addr} {es : Array DictEntry} {ep : Nat} {ks : List NestedKey} {k : NestedKey} {v : Value}
theorem nd_takeOut {Q : Option DictEntry → Shared → Prop} (hu : A.units + 8 < cLine) (R : Rw w s.heap d es ep ks) (kv : Kv s k v) (hz : es.size ≤ sizeLine) (hk : k ∈ ks)
    (yes : ∀ (j : Nat) (e : DictEntry), ks[j]? = some k → es[j]? = some e → ∀ h' t, DictObj d (es.eraseIdxIfInBounds j) (ep + 1) h' → Heap.SameBut d s.heap h' → Q (some e) { s with heap := h', toks := t }) : wpAny (model prog w) A (Builtin.Dict.takeOut d v) Q E s := by
  obtain ⟨o, h1, h2, h3⟩ := R.ob
  unfold Builtin.Dict.takeOut
  first | with_reducible refine wpAny_holding ?_ | skip
  refine wpAny_bind (pyHash_key k v A s _ kv.is (by have := kv.le; omega) (wpAny_bind (nd_find (s := { s with toks := s.toks + k.draws }) hu kv.is kv.le h1 h3 R.keys ⟨fun hn => absurd hk hn, fun j hj => ?_⟩)))
  obtain ⟨e, he, _⟩ := R.keys.here hj
  refine wpAny_bind (wpAny_dictEntries (s := { s with toks := s.toks + k.draws }) h1 h3 ?_)
  rw [he]
  exact wpAny_bind (wpAny_updateDictKeys (hz := hz) (s := { s with toks := s.toks + k.draws }) h1 h3 (wpAny_pure (yes j e hj he _ _ (dictObj_key h1 h2 h3 _) (Heap.SameBut.update ..))))
theorem nd_call_pop {Q : Value → Shared → Prop} (hu : A.units + 20 < cLine) (R : Rw w s.heap d es ep ks) (kv : Kv s k v) (hz : es.size ≤ sizeLine) (hk : k ∈ ks)
    (yes : ∀ (j : Nat) (e : DictEntry), ks[j]? = some k → es[j]? = some e → ∀ h' t, DictObj d (es.eraseIdxIfInBounds j) (ep + 1) h' → Heap.SameBut d s.heap h' → Q e.val { s with heap := h', toks := t }) : wpAny (model prog w) A (call (.builtin "dict.pop") [.ref d, v]) Q E s := by
  refine call_meetsIn F.slot_dict_pop R.ty F.entry_dict_pop (F.args_dict_pop_2 _ _) (S := fun A' q s' => A' = A ∧ s' = s ∧ (∀ (j : Nat) (e : DictEntry), ks[j]? = some k → es[j]? = some e → ∀ h' t, DictObj d (es.eraseIdxIfInBounds j) (ep + 1) h' → Heap.SameBut d s.heap h' → q (.ok (.ret e.val)) { s with heap := h', toks := t }))
    (fun A' q s' hS => ?_) ⟨rfl, rfl, fun j e h1 h2 h' t h3 h4 => yes j e h1 h2 h' t h3 h4⟩
  obtain ⟨rfl, rfl, q1⟩ := hS
  show wpAny _ _ (Builtin.«dict.pop» ⟨[.ref d, v], []⟩) _ _ _
  unfold Builtin.«dict.pop»
  refine wpAny_bind ?_
  unfold Builtin.Dict.keyAndDefault
  refine wpAny_bind (wpAny_notOrdered_dict R.ty ?_)
  show wpAny _ _ (pure (d, v, none)) _ _ _
  refine wpAny_pure ?_
  have hne : es.isEmpty = false := by
    obtain ⟨j, hj⟩ := List.mem_iff_getElem?.mp hk
    obtain ⟨e, he, _⟩ := R.keys.here hj
    have := (Array.getElem?_eq_some_iff.mp he).1
    simp only [Array.isEmpty, decide_eq_false_iff_not]
    omega
  obtain ⟨o, h1, h2, h3⟩ := R.ob
  by_cases hp : (keyPart v).isSome = true
  · simp only [hp, if_true]
    refine wpAny_bind (wpAny_pure ?_)
    simp only [Bool.false_eq_true, if_false]
    refine wpAny_bind (nd_takeOut (by show A'.units + 1 + 8 < cLine; omega) R kv hz hk fun j e g1 g2 h' t g3 g4 => ?_)
    simp only [Option.isNone_some, Bool.false_eq_true, if_false]
    exact wpAny_bind (wpAny_letGo (wpAny_pure (q1 j e g1 g2 h' t g3 g4)))
  · simp only [hp, Bool.false_eq_true, if_false]
    refine wpAny_bind (wpAny_dictEntries h1 h3 ?_)
    refine wpAny_bind (wpAny_pure ?_)
    simp only [hne, Bool.false_eq_true, if_false]
    refine wpAny_bind (nd_takeOut (by show A'.units + 1 + 8 < cLine; omega) R kv hz hk fun j e g1 g2 h' t g3 g4 => ?_)
    simp only [Option.isNone_some, Bool.false_eq_true, if_false]
    exact wpAny_bind (wpAny_letGo (wpAny_pure (q1 j e g1 g2 h' t g3 g4)))
end
def dPopK : DMt := fun d ds S R => ∃ l ep kvs j k x p, d = .loc l ∧ ds = [x] ∧ S[l]? = some (.dct ep kvs) ∧ keyD x = some k ∧ kvs[j]? = some p ∧ keyOf p.1 = some k ∧ R p.2 (S.set l (.dct (ep + 1) (kvs.eraseIdx j)))
section
variable {X : Cx} {ρ : List Addr} {H : Hp}
theorem paired_erase {α β : Type} {F : α → β → Prop} : ∀ {l1 : List α} {l2 : List β}, Paired F l1 l2 → ∀ (j : Nat), Paired F (l1.eraseIdx j) (l2.eraseIdx j)
  | _, _, .nil, _ => by simpa using Paired.nil
  | _, _, .cons _ t, 0 => t
  | _, _, .cons r t, j + 1 => .cons r (paired_erase t j)
theorem map_erase {α β : Type} {f : α → β} : ∀ (l : List α) (j : Nat), (l.eraseIdx j).map f = (l.map f).eraseIdx j
  | [], _ => by simp
  | _ :: _, 0 => by simp
  | a :: l, j + 1 => by simp [map_erase l j]
theorem md_popK (hu : X.A.units + 150 < cLine) : MtR X "dict.pop" (rMD X dPopK) := by
  intro pins s σ H x xs v us Q I rx rs ⟨ρ, S, d, ds, R, W, r1, r2, ⟨l, ep, kvs, j, k, y, pr, e1, e2, h1, hk, hj, hjk, q⟩, p⟩
  subst e1 e2
  obtain ⟨a, h3, rfl⟩ := r1.loc_of
  cases (show v = Value.ref a from rx)
  have hO := W.obj l a _ h3 h1
  obtain ⟨es, ks, T⟩ := dat_of I hO
  obtain ⟨_, _, hnd, _⟩ := hO
  obtain ⟨hk1, hk2⟩ := keyD_of hk
  obtain ⟨xv, rfl, g1⟩ := r2.one_of
  obtain ⟨u, rfl, r3⟩ := vals1 rs
  have kv : Kv s k u := ⟨nested_of I _ _ _ _ hk1 g1 r3, hk2⟩
  obtain ⟨k', e3, hjk2⟩ := keys_at T.keys hj
  rw [hjk] at e3
  cases e3
  refine nd_call_pop (by omega) T.rw kv (by rw [T.size]; exact T.le) (List.mem_of_getElem? hjk2) fun j' e g5 g6 h' t g7 g8 => ?_
  have ej : j' = j := T.rw.keys.one g5 hjk2
  subst ej
  obtain ⟨e', h6, _, _, dv, _, _, _, _, _, g9, g10⟩ := paired_get T.pr hj
  rw [Array.getElem?_toList, g6] at h6
  cases h6
  have vx : VX ρ H ρ (upd H a (.ext (DictObj a (es.eraseIdxIfInBounds j') (ep + 1)))) := vx_dict T.ext
  have hO' : OR X.w X.K X.mg ρ (upd H a (.ext (DictObj a (es.eraseIdxIfInBounds j') (ep + 1)))) a (.dct (ep + 1) (kvs.eraseIdx j')) := by
    refine ⟨T.sys, ?_, ?_, _, upd_same, ?_⟩
    · have := T.le
      have := List.length_eraseIdx_le kvs j'
      omega
    · rw [map_erase]
      exact hnd.sublist (List.eraseIdx_sublist ..)
    · have e4 : (es.eraseIdxIfInBounds j').toList = es.toList.eraseIdx j' := by
        obtain ⟨z⟩ := es
        simp
      rw [e4]
      exact paired_erase (Paired.mapP T.pr fun p e z => z.vx vx) j'
  exact ⟨dv, _, T.write I g7 g8, g10, p _ _ q ρ _ _ (ext_write (List.mem_of_getElem? h3)) (W.write h3 hO') (VR.vx vx _ _ g9)⟩
end
/-- d.pop(k): texts, or any keys -/
def dPopA : DMt := fun d ds S R => dPopD d ds S R ∨ dPopK d ds S R
theorem dPopK_loc {l ep j : Nat} {kvs : List (D × D)} {x : D} {k : NestedKey} {p : D × D} {S : Sto} {R : DQ} (h1 : S[l]? = some (.dct ep kvs)) (h2 : keyD x = some k) (h3 : kvs[j]? = some p) (h4 : keyOf p.1 = some k) (q : R p.2 (S.set l (.dct (ep + 1) (kvs.eraseIdx j)))) : dPopK (.loc l) [x] S R := ⟨l, ep, kvs, j, k, x, p, rfl, rfl, h1, h2, h3, h4, q⟩
end Dl

namespace Dl
open PySem L2 PyProof.Rows PySem.Spec

/-! ## zip of any two rows (a list, a tuple), and dict of it: keys whole numbers or texts -/
/-- what hands out values one by one: the iterator it over the row l -/
structure Nx (prog : Program) (w : World) (it l : Addr) (val : Nat → Option Value) (St : Nat → Heap → Prop) : Prop where
  frame : ∀ k h h', St k h → (∀ o, h.get? it = some o → h'.get? it = some o) → (∀ o, h.get? l = some o → h'.get? l = some o) → St k h'
  there : ∀ k h, St k h → (∃ o, h.get? it = some o) ∧ ∃ o, h.get? l = some o
  item : ∀ (A : Around) (E : Value → Shared → Prop) (s : Shared) (k : Nat) (v : Value) (Q : Value → Shared → Prop), St k s.heap → val k = some v → (∀ h', St (k + 1) h' → Heap.SameBut it s.heap h' → Q v { s with heap := h' }) → wpAny (model prog w) A (Builtin.SmallTypes.nextOf (.ref it)) Q E s
  done : ∀ (A : Around) (E : Value → Shared → Prop) (s : Shared) (k : Nat) (Q : Value → Shared → Prop), A.handled = none → St k s.heap → val k = none → (∀ h' e, Heap.ExtBut it s.heap h' → (∃ o, h'.get? e = some o ∧ o.cls = .type "StopIteration") → E (.ref e) { s with heap := h' }) → wpAny (model prog w) A (Builtin.SmallTypes.nextOf (.ref it)) Q E s
theorem nx_list {prog : Program} {w : World} {it l : Addr} {xs : Array Value} (ne : l ≠ it) : Nx prog w it l (fun k => xs[k]?) fun k h => h.IsListIter it l k ∧ h.IsList l xs where
  frame := fun k h h' ⟨a, b⟩ c d => ⟨a.at c, b.at d⟩
  there := fun k h ⟨⟨o, a, _⟩, ⟨o2, b, _⟩⟩ => ⟨⟨o, a⟩, ⟨o2, b⟩⟩
  item := fun A E s k v Q ⟨a, b⟩ e q => wpAny_nextOf_list_item a b e fun h' c d => q h' ⟨c, b.extBut d.extBut ne⟩ d
  done := fun A E s k Q hh ⟨a, b⟩ e q => wpAny_nextOf_list_end hh a b e q
theorem nx_tup {prog : Program} {w : World} {it l : Addr} {xs : Array Value} (ne : l ≠ it) : Nx prog w it l (fun k => xs[k]?) fun k h => h.IsTupleIter it l k ∧ h.IsTuple l xs where
  frame := fun k h h' ⟨a, b⟩ c d => ⟨a.at c, b.at d⟩
  there := fun k h ⟨⟨o, a, _⟩, ⟨o2, b, _⟩⟩ => ⟨⟨o, a⟩, ⟨o2, b⟩⟩
  item := fun A E s k v Q ⟨a, b⟩ e q => RZ.nextOf_tuple_item a b e fun h' c d => q h' ⟨c, b.extBut d.extBut ne⟩ d
  done := fun A E s k Q hh ⟨a, b⟩ e q => RZ.nextOf_tuple_end hh a b e q
theorem Nx.ext {prog : Program} {w : World} {it l b : Addr} {val : Nat → Option Value} {St : Nat → Heap → Prop} (N : Nx prog w it l val St) {k : Nat} {h h' : Heap} (x : St k h) (e : Heap.ExtBut b h h') (h1 : it ≠ b) (h2 : l ≠ b) : St k h' := N.frame k h h' x (fun o => e _ o h1) fun o => e _ o h2
section
variable {prog : Program} {w : World} {A : Around} {E : Value → Shared → Prop} {s : Shared} {z TI TO i1 i2 l1 l2 : Addr} {v1 v2 : Nat → Option Value} {S1 S2 : Nat → Heap → Prop} {k1 k2 : Nat}
/-- the tuple that the zip has handed out is out still -/
theorem zx_held {T : Addr} {f : Bool} {oT : Obj} {x y : Value} {Q : Value → Shared → Prop} (D : ZipApart z TI TO i1 i2 l1 l2) (N1 : Nx prog w i1 l1 v1 S1) (N2 : Nx prog w i2 l2 v2 S2)
    (hz : IsZipHeld s.heap z TI TO T f) (hT : s.heap.get? T = some oT) (hTI : IsPair s.heap TI (.ref i1) (.ref i2)) (a1 : S1 k1 s.heap) (a2 : S2 k2 s.heap) (e1 : v1 k1 = some x) (e2 : v2 k2 = some y)
    (q : ∀ h', IsZipHeld h' z TI TO T true → S1 (k1 + 1) h' → S2 (k2 + 1) h' → IsPair h' s.heap.objs.size x y → (∀ c o, c ≠ z → c ≠ i1 → c ≠ i2 → s.heap.get? c = some o → h'.get? c = some o) → Q (.ref s.heap.objs.size) { s with heap := h' }) :
    wpAny (model prog w) A (Builtin.«zip.__next__» ⟨[.ref z], []⟩) (fun fin s' => ∃ v, fin = .done (.ret v) ∧ Q v s') E s := by
  show wpAny _ _ (field (.ref z) 2 >>= _) _ _ _
  refine wpAny_bind (wpAny_field hz rfl (x := .bool false) rfl ?_)
  show wpAny _ _ (field (.ref z) 3 >>= _) _ _ _
  refine wpAny_bind (wpAny_field hz rfl (x := .ref TI) rfl (wpAny_bind (wpAny_seqItems hTI rfl ?_)))
  show wpAny _ _ (Builtin.SmallTypes.ownedTupleIsFree (.ref z) >>= _) _ _ _
  refine wpAny_bind (wpAny_tupleHeld_zip hz hT fun g1 z1 b1 => ?_)
  simp only [Bool.false_eq_true, if_false]
  refine wpAny_bind ?_
  rw [← Array.forIn_toList]
  simp only [List.forIn_cons, List.forIn_nil]
  have c1 : S1 k1 g1 := N1.ext a1 b1.extBut D.i1z D.l1z
  refine wpAny_bind (wpAny_bind (wpAny_holding ?_))
  show wpAny _ _ (Builtin.SmallTypes.nextOf (.ref i1) >>= _) _ _ _
  refine wpAny_bind (N1.item _ _ { s with heap := g1 } k1 x _ c1 e1 fun g2 c2 b2 => wpAny_pure (wpAny_pure ?_))
  have d2 : S2 k2 g2 := N2.ext (N2.ext a2 b1.extBut D.i2z D.l2z) b2.extBut D.i12.symm D.l2i1
  refine wpAny_bind (wpAny_bind (wpAny_holding ?_))
  show wpAny _ _ (Builtin.SmallTypes.nextOf (.ref i2) >>= _) _ _ _
  refine wpAny_bind (N2.item _ _ { s with heap := g2 } k2 y _ d2 e2 fun g3 d3 b3 => wpAny_pure (wpAny_pure (wpAny_pure ?_)))
  have c3 : S1 (k1 + 1) g3 := N1.ext c2 b3.extBut D.i12 D.l1i2
  have z3 : IsZipHeld g3 z TI TO T true := b3.extBut _ _ D.i2z.symm (b2.extBut _ _ D.i1z.symm z1)
  have kp : ∀ c o, c ≠ z → c ≠ i1 → c ≠ i2 → s.heap.get? c = some o → g3.get? c = some o := fun c o n1 n2 n3 e => b3.extBut _ _ n3 (b2.extBut _ _ n2 (b1.extBut _ _ n1 e))
  have sz : g3.objs.size = s.heap.objs.size := by rw [b3.1, b2.1, b1.1]
  show wpAny _ _ (newTuple [x, y] >>= _) _ _ _
  refine wpAny_bind (wpAny_newTuple (wpAny_pure ⟨_, rfl, ?_⟩))
  show Q (.ref g3.objs.size) _
  have up : ∀ c o, g3.get? c = some o → (g3.push { cls := .type "tuple", data := .seq #[x, y] }).get? c = some o := fun c o e => Heap.get?_push_of_some _ e
  have pr : IsPair (g3.push { cls := .type "tuple", data := .seq #[x, y] }) g3.objs.size x y := Heap.get?_push_size _ rfl
  rw [sz] at pr ⊢
  exact q _ (up _ _ z3) (N1.frame _ _ _ c3 (fun o => up _ o) fun o => up _ o) (N2.frame _ _ _ d3 (fun o => up _ o) fun o => up _ o) pr fun c o n1 n2 n3 e => up _ _ (kp c o n1 n2 n3 e)
theorem zx_heldEnd {T : Addr} {f : Bool} {oT : Obj} {Q : Fin → Shared → Prop} (hh : A.handled = none) (D : ZipApart z TI TO i1 i2 l1 l2) (N1 : Nx prog w i1 l1 v1 S1) (N2 : Nx prog w i2 l2 v2 S2)
    (hz : IsZipHeld s.heap z TI TO T f) (hT : s.heap.get? T = some oT) (hTI : IsPair s.heap TI (.ref i1) (.ref i2)) (a1 : S1 k1 s.heap) (a2 : S2 k2 s.heap) (e12 : v1 k1 = none ∨ v2 k2 = none)
    (q : ∀ h' e, (∀ c o, c ≠ z → c ≠ i1 → c ≠ i2 → s.heap.get? c = some o → h'.get? c = some o) → (∃ o, h'.get? e = some o ∧ o.cls = .type "StopIteration") → E (.ref e) { s with heap := h' }) :
    wpAny (model prog w) A (Builtin.«zip.__next__» ⟨[.ref z], []⟩) Q E s := by
  show wpAny _ _ (field (.ref z) 2 >>= _) _ _ _
  refine wpAny_bind (wpAny_field hz rfl (x := .bool false) rfl ?_)
  show wpAny _ _ (field (.ref z) 3 >>= _) _ _ _
  refine wpAny_bind (wpAny_field hz rfl (x := .ref TI) rfl (wpAny_bind (wpAny_seqItems hTI rfl ?_)))
  show wpAny _ _ (Builtin.SmallTypes.ownedTupleIsFree (.ref z) >>= _) _ _ _
  refine wpAny_bind (wpAny_tupleHeld_zip hz hT fun g1 z1 b1 => ?_)
  simp only [Bool.false_eq_true, if_false]
  refine wpAny_bind ?_
  rw [← Array.forIn_toList]
  simp only [List.forIn_cons, List.forIn_nil]
  have c1 : S1 k1 g1 := N1.ext a1 b1.extBut D.i1z D.l1z
  refine wpAny_bind (wpAny_bind (wpAny_holding ?_))
  show wpAny _ _ (Builtin.SmallTypes.nextOf (.ref i1) >>= _) _ _ _
  cases e1 : v1 k1 with
  | none => exact wpAny_bind (N1.done _ _ { s with heap := g1 } k1 _ hh c1 e1 fun g2 e b2 he => q g2 e (fun c o n1 n2 _ h => b2 _ _ n2 (b1.extBut _ _ n1 h)) he)
  | some x =>
    have e2 : v2 k2 = none := e12.resolve_left (by rw [e1]; simp)
    refine wpAny_bind (N1.item _ _ { s with heap := g1 } k1 x _ c1 e1 fun g2 c2 b2 => wpAny_pure (wpAny_pure ?_))
    have d2 : S2 k2 g2 := N2.ext (N2.ext a2 b1.extBut D.i2z D.l2z) b2.extBut D.i12.symm D.l2i1
    refine wpAny_bind (wpAny_bind (wpAny_holding ?_))
    show wpAny _ _ (Builtin.SmallTypes.nextOf (.ref i2) >>= _) _ _ _
    exact wpAny_bind (N2.done _ _ { s with heap := g2 } k2 _ hh d2 e2 fun g3 e b3 he => q g3 e (fun c o n1 n2 n3 h => b3 _ _ n3 (b2.extBut _ _ n2 (b1.extBut _ _ n1 h))) he)
/-- no tuple has been handed out yet -/
theorem zx_free {x y a b : Value} {Q : Value → Shared → Prop} (D : ZipApart z TI TO i1 i2 l1 l2) (N1 : Nx prog w i1 l1 v1 S1) (N2 : Nx prog w i2 l2 v2 S2)
    (hz : IsZip s.heap z TI TO .none) (hTI : IsPair s.heap TI (.ref i1) (.ref i2)) (hTO : IsPair s.heap TO a b) (a1 : S1 k1 s.heap) (a2 : S2 k2 s.heap) (e1 : v1 k1 = some x) (e2 : v2 k2 = some y)
    (q : ∀ h', IsZip h' z TI TO (rawInt s.heap.objs.size) → S1 (k1 + 1) h' → S2 (k2 + 1) h' → IsPair h' s.heap.objs.size x y → (∀ c o, c ≠ z → c ≠ TO → c ≠ i1 → c ≠ i2 → s.heap.get? c = some o → h'.get? c = some o) → Q (.ref s.heap.objs.size) { s with heap := h' }) :
    wpAny (model prog w) A (Builtin.«zip.__next__» ⟨[.ref z], []⟩) (fun fin s' => ∃ v, fin = .done (.ret v) ∧ Q v s') E s := by
  show wpAny _ _ (field (.ref z) 2 >>= _) _ _ _
  refine wpAny_bind (wpAny_field hz rfl (x := .bool false) rfl ?_)
  show wpAny _ _ (field (.ref z) 3 >>= _) _ _ _
  refine wpAny_bind (wpAny_field hz rfl (x := .ref TI) rfl (wpAny_bind (wpAny_seqItems hTI rfl ?_)))
  show wpAny _ _ (Builtin.SmallTypes.ownedTupleIsFree (.ref z) >>= _) _ _ _
  refine wpAny_bind ?_
  unfold Builtin.SmallTypes.ownedTupleIsFree
  refine wpAny_bind (wpAny_field hz rfl (x := .none) rfl (wpAny_pure ?_))
  simp only [if_true]
  refine wpAny_bind (wpAny_rule (wpAny_bind (wpAny_field hz rfl (x := .ref TO) rfl (wpAny_bind (wpAny_setField_rec hz (by simp) fun g1 z1 b1 => wpAny_bind ?_)))))
  replace z1 : IsZip g1 z TI TO .ellipsis := z1
  simp only [List.zipIdx_cons, List.zipIdx_nil, List.forIn_cons, List.forIn_nil]
  have c1 : S1 k1 g1 := N1.ext a1 b1.extBut D.i1z D.l1z
  refine wpAny_bind (wpAny_bind (wpAny_onRaise ?_))
  show wpAny _ _ (Builtin.SmallTypes.nextOf (.ref i1) >>= _) _ _ _
  refine wpAny_bind (N1.item _ _ { s with heap := g1 } k1 x _ c1 e1 fun g2 c2 b2 => wpAny_pure ?_)
  have t2 : IsPair g2 TO a b := b2.extBut _ _ D.TOi1 (b1.extBut _ _ D.TOz hTO)
  refine wpAny_bind (wpAny_seqItems t2 rfl (wpAny_bind (wpAny_updateSeq_pair t2 fun g3 t3 b3 => wpAny_bind (wpAny_letGo (wpAny_pure ?_)))))
  replace t3 : IsPair g3 TO x b := t3
  have d3 : S2 k2 g3 := N2.ext (N2.ext (N2.ext a2 b1.extBut D.i2z D.l2z) b2.extBut D.i12.symm D.l2i1) b3.extBut D.TOi2.symm D.l2TO
  refine wpAny_bind (wpAny_bind (wpAny_onRaise ?_))
  show wpAny _ _ (Builtin.SmallTypes.nextOf (.ref i2) >>= _) _ _ _
  refine wpAny_bind (N2.item _ _ { s with heap := g3 } k2 y _ d3 e2 fun g4 d4 b4 => wpAny_pure ?_)
  have t4 : IsPair g4 TO x b := b4.extBut _ _ D.TOi2 t3
  refine wpAny_bind (wpAny_seqItems t4 rfl (wpAny_bind (wpAny_updateSeq_pair t4 fun g5 t5 b5 => wpAny_bind (wpAny_letGo (wpAny_pure (wpAny_pure ?_))))))
  replace t5 : IsPair g5 TO x y := t5
  have c5 : S1 (k1 + 1) g5 := N1.ext (N1.ext (N1.ext c2 b3.extBut D.TOi1.symm D.l1TO) b4.extBut D.i12 D.l1i2) b5.extBut D.TOi1.symm D.l1TO
  have d5 : S2 (k2 + 1) g5 := N2.ext d4 b5.extBut D.TOi2.symm D.l2TO
  have z5 : IsZip g5 z TI TO .ellipsis := b5.extBut _ _ D.TOz.symm (b4.extBut _ _ D.i2z.symm (b3.extBut _ _ D.TOz.symm (b2.extBut _ _ D.i1z.symm z1)))
  have kp : ∀ c o, c ≠ z → c ≠ TO → c ≠ i1 → c ≠ i2 → s.heap.get? c = some o → g5.get? c = some o := fun c o n1 n2 n3 n4 e => b5.extBut _ _ n2 (b4.extBut _ _ n4 (b3.extBut _ _ n2 (b2.extBut _ _ n3 (b1.extBut _ _ n1 e))))
  have sz : g5.objs.size = s.heap.objs.size := by rw [b5.1, b4.1, b3.1, b2.1, b1.1]
  refine wpAny_bind (wpAny_seqItems t5 rfl (wpAny_bind (wpAny_newTuple ?_)))
  have lz : z < g5.objs.size := Heap.lt_size z5
  show wpAny _ _ (Builtin.SmallTypes.ownedTupleHandOut (.ref z) (.ref g5.objs.size) >>= _) _ _ _
  refine wpAny_bind ?_
  unfold Builtin.SmallTypes.ownedTupleHandOut
  have z6 : IsZip (g5.push { cls := .type "tuple", data := .seq #[x, y] }) z TI TO .ellipsis := Heap.get?_push_of_some _ z5
  refine wpAny_bind (wpAny_setField_rec z6 (by simp) fun g7 z7 b7 => ?_)
  replace z7 : IsZip g7 z TI TO (rawInt g5.objs.size) := z7
  refine wpAny_setField_rec z7 (by simp) fun g8 z8 b8 => wpAny_pure ⟨_, rfl, ?_⟩
  replace z8 : IsZip g8 z TI TO (rawInt g5.objs.size) := z8
  have up : ∀ c o, c ≠ z → g5.get? c = some o → g8.get? c = some o := fun c o n1 e => b8.extBut _ _ n1 (b7.extBut _ _ n1 (Heap.get?_push_of_some _ e))
  have p8 : IsPair g8 g5.objs.size x y := b8.extBut _ _ (Nat.ne_of_gt lz) (b7.extBut _ _ (Nat.ne_of_gt lz) (Heap.get?_push_size _ rfl))
  show Q (.ref g5.objs.size) _
  rw [sz] at z8 p8 ⊢
  exact q g8 z8 (N1.frame _ _ _ c5 (fun o => up _ o D.i1z) fun o => up _ o D.l1z) (N2.frame _ _ _ d5 (fun o => up _ o D.i2z) fun o => up _ o D.l2z) p8 fun c o n1 n2 n3 n4 e => up _ _ n1 (kp c o n1 n2 n3 n4 e)
theorem zx_freeEnd {a b : Value} {Q : Fin → Shared → Prop} (hh : A.handled = none) (D : ZipApart z TI TO i1 i2 l1 l2) (N1 : Nx prog w i1 l1 v1 S1) (N2 : Nx prog w i2 l2 v2 S2)
    (hz : IsZip s.heap z TI TO .none) (hTI : IsPair s.heap TI (.ref i1) (.ref i2)) (hTO : IsPair s.heap TO a b) (a1 : S1 k1 s.heap) (a2 : S2 k2 s.heap) (e12 : v1 k1 = none ∨ v2 k2 = none)
    (q : ∀ h' e, (∀ c o, c ≠ z → c ≠ TO → c ≠ i1 → c ≠ i2 → s.heap.get? c = some o → h'.get? c = some o) → (∃ o, h'.get? e = some o ∧ o.cls = .type "StopIteration") → E (.ref e) { s with heap := h' }) :
    wpAny (model prog w) A (Builtin.«zip.__next__» ⟨[.ref z], []⟩) Q E s := by
  show wpAny _ _ (field (.ref z) 2 >>= _) _ _ _
  refine wpAny_bind (wpAny_field hz rfl (x := .bool false) rfl ?_)
  show wpAny _ _ (field (.ref z) 3 >>= _) _ _ _
  refine wpAny_bind (wpAny_field hz rfl (x := .ref TI) rfl (wpAny_bind (wpAny_seqItems hTI rfl ?_)))
  show wpAny _ _ (Builtin.SmallTypes.ownedTupleIsFree (.ref z) >>= _) _ _ _
  refine wpAny_bind ?_
  unfold Builtin.SmallTypes.ownedTupleIsFree
  refine wpAny_bind (wpAny_field hz rfl (x := .none) rfl (wpAny_pure ?_))
  simp only [if_true]
  refine wpAny_bind (wpAny_rule (wpAny_bind (wpAny_field hz rfl (x := .ref TO) rfl (wpAny_bind (wpAny_setField_rec hz (by simp) fun g1 z1 b1 => wpAny_bind ?_)))))
  replace z1 : IsZip g1 z TI TO .ellipsis := z1
  simp only [List.zipIdx_cons, List.zipIdx_nil, List.forIn_cons, List.forIn_nil]
  have c1 : S1 k1 g1 := N1.ext a1 b1.extBut D.i1z D.l1z
  refine wpAny_bind (wpAny_bind (wpAny_onRaise ?_))
  show wpAny _ _ (Builtin.SmallTypes.nextOf (.ref i1) >>= _) _ _ _
  cases e1 : v1 k1 with
  | none =>
    refine wpAny_bind (N1.done _ _ { s with heap := g1 } k1 _ hh c1 e1 fun g2 e b2 ⟨oe, he, hc⟩ => ?_)
    have z2 : IsZip g2 z TI TO .ellipsis := b2 _ _ D.i1z.symm z1
    have ne : e ≠ z := fun x => by subst x; rw [z2] at he; cases he; simp at hc
    exact wpAny_setField_rec z2 (by simp) fun g3 _ b3 => q g3 e (fun c o n1 _ n3 _ h => b3.extBut _ _ n1 (b2 _ _ n3 (b1.extBut _ _ n1 h))) ⟨oe, b3.extBut _ _ ne he, hc⟩
  | some x =>
    have e2 : v2 k2 = none := e12.resolve_left (by rw [e1]; simp)
    refine wpAny_bind (N1.item _ _ { s with heap := g1 } k1 x _ c1 e1 fun g2 c2 b2 => wpAny_pure ?_)
    have t2 : IsPair g2 TO a b := b2.extBut _ _ D.TOi1 (b1.extBut _ _ D.TOz hTO)
    refine wpAny_bind (wpAny_seqItems t2 rfl (wpAny_bind (wpAny_updateSeq_pair t2 fun g3 t3 b3 => wpAny_bind (wpAny_letGo (wpAny_pure ?_)))))
    have d3 : S2 k2 g3 := N2.ext (N2.ext (N2.ext a2 b1.extBut D.i2z D.l2z) b2.extBut D.i12.symm D.l2i1) b3.extBut D.TOi2.symm D.l2TO
    refine wpAny_bind (wpAny_bind (wpAny_onRaise ?_))
    show wpAny _ _ (Builtin.SmallTypes.nextOf (.ref i2) >>= _) _ _ _
    refine wpAny_bind (N2.done _ _ { s with heap := g3 } k2 _ hh d3 e2 fun g4 e b4 ⟨oe, he, hc⟩ => ?_)
    have z4 : IsZip g4 z TI TO .ellipsis := b4 _ _ D.i2z.symm (b3.extBut _ _ D.TOz.symm (b2.extBut _ _ D.i1z.symm z1))
    have ne : e ≠ z := fun x => by subst x; rw [z4] at he; cases he; simp at hc
    exact wpAny_setField_rec z4 (by simp) fun g5 _ b5 => q g5 e (fun c o n1 n2 n3 n4 h => b5.extBut _ _ n1 (b4 _ _ n4 (b3.extBut _ _ n2 (b2.extBut _ _ n3 (b1.extBut _ _ n1 h))))) ⟨oe, b5.extBut _ _ ne he, hc⟩
/-- the zip asked for its next -/
theorem zx_ask {Q : Option Value → Shared → Prop} (hT : s.TypeIs (.ref z) "zip") (h : wpAny (model prog w) A.in1 (Builtin.«zip.__next__» ⟨[.ref z], []⟩) (fun fin s' => ∃ v, fin = .done (.ret v) ∧ Q (some v) s') (fun e s' => ∃ a, e = .ref a ∧ (∃ o, s'.heap.get? a = some o ∧ o.cls = .type "StopIteration") ∧ Q none s') s) : wpAny (model prog w) A (pyNext (.ref z)) Q E s := by
  unfold pyNext
  refine wpAny_bind (wpAny_attempt (wpAny_callSpecial?_slot (name := Str.ofString "__next__") hT PySem.F.slot_zip_next
    (wpAny_call_entry PySem.F.slot_zip_next hT PySem.F.entry_zip_next (wpAny_mono h (fun fin s' ⟨v, e, hq⟩ => ⟨v, e, wpAny_pure hq⟩) fun e s' he => ?_) (PySem.F.args_zip_next_1 _))))
  obtain ⟨a, rfl, ⟨o, ho, hc⟩, hq⟩ := he
  exact wpAny_bind (wpAny_isInstance (T := "StopIteration") (b := true) ⟨o, ho, hc⟩ isSubtype_stop (wpAny_pure hq))
end
end Dl

namespace Dl
open PySem L2 PyProof.Rows PySem.Spec

/-! ## dict(zip(xs, ys)): xs a tuple of whole numbers or texts, ys a list -/
section
variable {prog : Program} {w : World} {z TI TO i1 i2 l1 l2 : Addr} {v1 v2 : Nat → Option Value} {S1 S2 : Nat → Heap → Prop} {n : Nat}
theorem zx_arg (D : ZipApart z TI TO i1 i2 l1 l2) (N1 : Nx prog w i1 l1 v1 S1) (N2 : Nx prog w i2 l2 v2 S2) (hi : ∀ i, i < n → (∃ x, v1 i = some x) ∧ ∃ y, v2 i = some y) (hn : v1 n = none ∨ v2 n = none) :
    PairArg prog w "zip" z [z, TI, TO, i1, i2, l1, l2] [z, TO, i1, i2] n (fun i k v => v1 i = some k ∧ v2 i = some v)
      (fun h => IsZip h z TI TO .none ∧ IsPair h TI (.ref i1) (.ref i2) ∧ (∃ a b, IsPair h TO a b) ∧ S1 0 h ∧ S2 0 h) where
  type := fun s ok => ⟨_, ok.1, rfl⟩
  notDict := by decide
  keep := fun h h' ok hk => by
    obtain ⟨a, b, ⟨c, d, e⟩, f, g⟩ := ok
    exact ⟨hk _ _ a, hk _ _ b, ⟨c, d, hk _ _ e⟩, N1.frame _ _ _ f (fun o => hk _ o) fun o => hk _ o, N2.frame _ _ _ g (fun o => hk _ o) fun o => hk _ o⟩
  there := fun h ok b hb => by
    obtain ⟨a, b2, ⟨c, d, e⟩, f, g⟩ := ok
    obtain ⟨f1, f2⟩ := N1.there _ _ f
    obtain ⟨g1, g2⟩ := N2.there _ _ g
    simp only [List.mem_cons, List.not_mem_nil, or_false] at hb
    rcases hb with rfl | rfl | rfl | rfl | rfl | rfl | rfl
    · exact ⟨_, a⟩
    · exact ⟨_, b2⟩
    · exact ⟨_, e⟩
    · exact f1
    · exact g1
    · exact f2
    · exact g2
  sub := fun b hb => by simp at hb ⊢; rcases hb with rfl | rfl | rfl | rfl <;> simp
  noKeys := fun A s Q E hA ok h => getAttrOr_miss_zip ok.1 rfl rfl rfl zip_no_keys (by decide +kernel) hA h
  iter := fun A s d Q E hA ok hd hdf h => by
    obtain ⟨hz, hTI, ⟨a, b, hTO⟩, h1, h2⟩ := ok
    simp only [List.mem_cons, List.not_mem_nil, or_false, not_or] at hdf
    obtain ⟨dz, dTI, dTO, di1, di2, dl1, dl2⟩ := hdf
    refine wpAny_pyIter_zip hz (h z [z, TO, i1, i2] (fun i h => IsPair h TI (.ref i1) (.ref i2) ∧ S1 i h ∧ S2 i h ∧ ((IsZip h z TI TO .none ∧ ∃ a b, IsPair h TO a b) ∨ ∃ T f oT, IsZipHeld h z TI TO T f ∧ h.get? T = some oT ∧ T ≠ z ∧ T ≠ i1 ∧ T ≠ i2 ∧ T ≠ d)) s.heap s.toks ?_
      ⟨hTI, h1, h2, .inl ⟨hz, a, b, hTO⟩⟩ (fun _ _ e => e) fun b hb => .inl hb)
    refine ⟨fun hm => ?_, fun i g1 g2 st hk => ?_, fun i s1 Q1 E1 hin st hds q => ?_, fun s1 Q1 E1 st q => ?_⟩
    · simp only [List.mem_cons, List.not_mem_nil, or_false] at hm
      exact hm.elim dz fun hm => hm.elim dTO fun hm => hm.elim di1 di2
    · obtain ⟨hTI, a1, a2, hz⟩ := st
      refine ⟨hk _ _ (Ne.symm dTI) hTI, N1.frame _ _ _ a1 (fun o => hk _ o (Ne.symm di1)) fun o => hk _ o (Ne.symm dl1), N2.frame _ _ _ a2 (fun o => hk _ o (Ne.symm di2)) fun o => hk _ o (Ne.symm dl2), ?_⟩
      rcases hz with ⟨hz, a, b, hTO⟩ | ⟨T, f, oT, hz, hT, r1, r2, r3, r4⟩
      · exact .inl ⟨hk _ _ (Ne.symm dz) hz, a, b, hk _ _ (Ne.symm dTO) hTO⟩
      · exact .inr ⟨T, f, oT, hk _ _ (Ne.symm dz) hz, hk _ _ r4 hT, r1, r2, r3, r4⟩
    · obtain ⟨hTI, a1, a2, hz⟩ := st
      obtain ⟨⟨x, e1⟩, y, e2⟩ := hi i hin
      obtain ⟨⟨o1, t1⟩, _⟩ := N1.there _ _ a1
      obtain ⟨⟨o2, t2⟩, _⟩ := N2.there _ _ a2
      have m1 : s1.heap.objs.size ≠ i1 := Nat.ne_of_gt (Heap.lt_size t1)
      have m2 : s1.heap.objs.size ≠ i2 := Nat.ne_of_gt (Heap.lt_size t2)
      rcases hz with ⟨hz, a, b, hTO⟩ | ⟨T, f, oT, hz, hT, r1, r2, r3, r4⟩
      · have m3 : s1.heap.objs.size ≠ z := Nat.ne_of_gt (Heap.lt_size hz)
        refine zx_ask ⟨_, hz, rfl⟩ (zx_free D N1 N2 hz hTI hTO a1 a2 e1 e2 fun h' c1 c2 c3 c4 c5 => ?_)
        have hk : ∀ c o, c ∉ [z, TO, i1, i2] → s1.heap.get? c = some o → h'.get? c = some o := fun c o hc e => by
          simp only [List.mem_cons, List.not_mem_nil, or_false, not_or] at hc
          exact c5 c o hc.1 hc.2.1 hc.2.2.1 hc.2.2.2 e
        exact q s1.heap.objs.size x y h' s1.toks ⟨e1, e2⟩ (.inl ⟨_, c4, rfl, _, rfl⟩) ⟨c5 _ _ D.TIz D.TITO D.TIi1 D.TIi2 hTI, c2, c3, .inr ⟨_, false, _, c1, c4, m3, m1, m2, Nat.ne_of_gt hds⟩⟩ hk
      · refine zx_ask ⟨_, hz, rfl⟩ (zx_held D N1 N2 hz hT hTI a1 a2 e1 e2 fun h' c1 c2 c3 c4 c5 => ?_)
        have hk : ∀ c o, c ∉ [z, TO, i1, i2] → s1.heap.get? c = some o → h'.get? c = some o := fun c o hc e => by
          simp only [List.mem_cons, List.not_mem_nil, or_false, not_or] at hc
          exact c5 c o hc.1 hc.2.2.1 hc.2.2.2 e
        exact q s1.heap.objs.size x y h' s1.toks ⟨e1, e2⟩ (.inl ⟨_, c4, rfl, _, rfl⟩) ⟨c5 _ _ D.TIz D.TIi1 D.TIi2 hTI, c2, c3, .inr ⟨T, true, oT, c1, c5 _ _ r1 r2 r3 hT, r1, r2, r3, r4⟩⟩ hk
    · obtain ⟨hTI, a1, a2, hz⟩ := st
      have hin1 : A.in1.handled = none := hA
      rcases hz with ⟨hz, a, b, hTO⟩ | ⟨T, f, oT, hz, hT, r1, r2, r3, r4⟩
      · refine zx_ask ⟨_, hz, rfl⟩ (zx_freeEnd hin1 D N1 N2 hz hTI hTO a1 a2 hn fun h' e c5 he => ⟨e, rfl, he, q h' s1.toks fun c o hc g => ?_⟩)
        simp only [List.mem_cons, List.not_mem_nil, or_false, not_or] at hc
        exact c5 c o hc.1 hc.2.1 hc.2.2.1 hc.2.2.2 g
      · refine zx_ask ⟨_, hz, rfl⟩ (zx_heldEnd hin1 D N1 N2 hz hT hTI a1 a2 hn fun h' e c5 he => ⟨e, rfl, he, q h' s1.toks fun c o hc g => ?_⟩)
        simp only [List.mem_cons, List.not_mem_nil, or_false, not_or] at hc
        exact c5 c o hc.1 hc.2.2.1 hc.2.2.2 g
end
/-- the objects that zip(t, l) makes, one behind the other -/
def zxo (l1 l2 b : Addr) : List Obj := [{ cls := .type "tuple_iterator", data := .fields #[.ref l1, .int 0 0] }, { cls := .type "list_iterator", data := .fields #[.ref l2, .int 0 0] }, { cls := .type "tuple", data := .seq #[.ref b, .ref (b + 1)] },
  { cls := .type "tuple", data := .seq #[.none, .none] }, { cls := .type "zip", data := .fields #[.none, .bool false, .bool false, .ref (b + 2), .ref (b + 3)] }]
def pushes (h : Heap) : List Obj → Heap
  | [] => h
  | o :: os => pushes (h.push o) os
theorem pushes_old : ∀ {os : List Obj} {h : Heap} {c : Addr} {o : Obj}, h.get? c = some o → (pushes h os).get? c = some o
  | [], _, _, _, e => e
  | _ :: os, _, _, _, e => pushes_old (os := os) (Heap.get?_push_of_some _ e)
theorem pushes_new {o : Obj} (hf : o.isFreed = false) : ∀ {os : List Obj} {h : Heap} {j : Nat}, os[j]? = some o → (pushes h os).get? (h.objs.size + j) = some o
  | [], _, _, e => by simp at e
  | p :: os, h, 0, e => by
    have e' : p = o := by simpa using e
    subst e'
    exact pushes_old (os := os) (Heap.get?_push_size _ hf)
  | p :: os, h, j + 1, e => by
    have := pushes_new hf (os := os) (h := h.push p) (j := j) (by simpa using e)
    rw [Heap.size_push] at this
    have e2 : h.objs.size + (j + 1) = h.objs.size + 1 + j := by omega
    rw [e2]
    exact this
theorem pushes_size : ∀ (os : List Obj) (h : Heap), (pushes h os).objs.size = h.objs.size + os.length
  | [], h => by simp [pushes]
  | p :: os, h => by
    rw [pushes, pushes_size os, Heap.size_push, List.length_cons]
    omega
theorem meets_zx (l1 l2 : Addr) (xs ys : Array Value) :
    Meets (Builtin.«zip.__new__» ⟨[.type "zip", .ref l1, .ref l2], []⟩) (fun _ R s => s.heap.IsTuple l1 xs ∧ s.heap.IsList l2 ys ∧ R (.ok (.ret (.ref (s.heap.objs.size + 4)))) { s with heap := pushes s.heap (zxo l1 l2 s.heap.objs.size) }) :=
  .of_wp fun prog w A R s h => by
    obtain ⟨hp, g, d, tk, os⟩ := s
    obtain ⟨hl1, hl2, h⟩ := h
    have hsub := sub_zip
    have hL1 : Heap.IsTuple (Shared.heap ⟨hp, g, d, tk, os⟩) l1 xs := hl1
    have hL2 : Heap.IsList (Shared.heap ⟨hp.push { cls := .type "tuple_iterator", data := .fields #[.ref l1, .int 0 0] }, g, d, tk, os⟩) l2 ys := Heap.IsList.push hl2 _
    wp_walk using wpAny_pyIter_tuple hL1, wpAny_pyIter_list hL2
    refine ⟨_, rfl, ?_⟩
    simp only [Heap.size_push]
    exact h
section
variable {prog : Program} {w : World} {A : Around} {E : Value → Shared → Prop} {s : Shared}
theorem call_zx {l1 l2 : Addr} {xs ys : Array Value} {Q : Value → Shared → Prop} (h1 : s.heap.IsTuple l1 xs) (h2 : s.heap.IsList l2 ys)
    (q : ∀ h', IsZip h' (s.heap.objs.size + 4) (s.heap.objs.size + 2) (s.heap.objs.size + 3) .none → IsPair h' (s.heap.objs.size + 2) (.ref s.heap.objs.size) (.ref (s.heap.objs.size + 1)) → IsPair h' (s.heap.objs.size + 3) .none .none →
      h'.IsTupleIter s.heap.objs.size l1 0 → h'.IsListIter (s.heap.objs.size + 1) l2 0 → h'.objs.size = s.heap.objs.size + 5 → (∀ c o, s.heap.get? c = some o → h'.get? c = some o) → Q (.ref (s.heap.objs.size + 4)) { s with heap := h' }) :
    wpAny (model prog w) A (call (.type "zip") [.ref l1, .ref l2]) Q E s := by
  refine callType_new PySem.F.called_zip (by decide) (PySem.F.typeCall_zip_2 _ _) (PySem.F.newCall_zip_2 _ _) (fun obj => PySem.F.args_object_init_3 obj _ _) PySem.F.entry_zip_new (meets_zx l1 l2 xs ys) ⟨h1, h2, ?_⟩
  have at_ : ∀ (j : Nat) (o : Obj), (zxo l1 l2 s.heap.objs.size)[j]? = some o → o.isFreed = false → (pushes s.heap (zxo l1 l2 s.heap.objs.size)).get? (s.heap.objs.size + j) = some o := fun j o e f => pushes_new f e
  refine ⟨⟨_, at_ 4 _ rfl rfl, rfl⟩, q _ (at_ 4 _ rfl rfl) (at_ 2 _ rfl rfl) (at_ 3 _ rfl rfl) ⟨_, at_ 0 _ rfl rfl, rfl, rfl⟩ ⟨_, at_ 1 _ rfl rfl, rfl, rfl⟩ (by rw [pushes_size]; rfl) fun c o e => pushes_old e⟩
end
def wDictZipK (wr : WA) : WE := fun τ S R => wr τ S fun ds S1 => ∃ (d2 : D) (ws : List Key) (p2 : List D × (Sto → Prop)), ds = [.tup (ws.map kD), d2] ∧ lstD S1 d2 = some p2 ∧ ∀ ep, R (.loc S1.length) (S1 ++ [.dct ep (zipK [] (ws.zip p2.1))])
section
variable {X : Cx} {e e2 : Expr} {wr : WA} {p p2 q pos : Pos}
theorem vals_zip {ρ : List Addr} {H : Hp} : ∀ {ws : List Key} {ds : List D} {vs2 : List V} {us2 : List Value}, VRs X.K ρ H ds vs2 → Vals vs2 us2 → Paired (fun (p : Key × D) (r : Key × Value) => r.1 = p.1 ∧ ∃ dv, VR X.K ρ H p.2 dv ∧ RelV dv r.2) (ws.zip ds) (ws.zip us2)
  | [], _, _, _, _, _ => by simpa using Paired.nil
  | w :: ws, ds, vs2, us2, r2, q2 => by
    cases ds with
    | nil =>
      cases r2.nil_of
      cases q2
      exact .nil
    | cons d ds =>
      unfold VRs at r2
      obtain ⟨v, vr, rfl, g1, g2⟩ := r2
      cases q2 with
      | cons q3 q4 => exact .cons ⟨rfl, v, g1, q3⟩ (vals_zip g2 q4)
theorem keys_is {ρ : List Addr} {H : Hp} : ∀ {ws : List Key} {vs : List V} {us : List Value}, VRs X.K ρ H (ws.map kD) vs → Vals vs us → us.length = ws.length ∧ ∀ (i : Nat) (u : Value), us[i]? = some u → ∃ k, ws[i]? = some k ∧ keyIs k u = true
  | [], vs, us, h, r => by
    rw [List.map_nil] at h
    cases h.nil_of
    cases r
    exact ⟨rfl, fun i u e => by simp at e⟩
  | w :: ws, vs, us, h, r => by
    rw [List.map_cons] at h
    unfold VRs at h
    obtain ⟨v, vr, rfl, g1, g2⟩ := h
    cases r with
    | cons r1 r2 =>
    rename_i u ur
    obtain ⟨h1, h2⟩ := keys_is g2 r2
    refine ⟨by simp [h1], fun i z e => ?_⟩
    cases i with
    | zero =>
      simp at e
      subst e
      refine ⟨w, rfl, ?_⟩
      cases w with
      | inl i =>
        cases (show v = V.int i from g1)
        obtain ⟨t, rfl⟩ := (show ∃ t, u = Value.int i t from r1)
        exact keyIs_int _ _
      | inr x =>
        cases (show v = V.str x from g1)
        obtain ⟨t, rfl⟩ := (show ∃ t, u = Value.str x t from r1)
        exact keyIs_str _ _
    | succ i => exact h2 i z (by simpa using e)
theorem de_dictZipK (hc : X.calm = true) (hg : Gl X "dict") (hm : X.mg "dict" = none) (hg2 : Gl X "zip") (hm2 : X.mg "zip" = none) (ha : PA X [e, e2] (dA X wr))
    (hs : starEach [e, e2] X.env = (false, eval e X.env) :: starEach [e2] X.env := by rfl) (hpl : (backTo q (starEach [e2] X.env)).any (·.1) = false := by rfl) :
    PE X (.Call (.Name "dict" p) [.Call (.Name "zip" p2) [e, e2] [] q] [] pos) (dE X (wDictZipK wr)) := by
  refine ⟨fun pins s σ H Q I ⟨ρ, τ, S, R, W, er, h, pe⟩ => ?_⟩
  refine Call_ (ld_blt I hg hm PyProof.Rows.boot_dict ?_)
  refine PyProof.Rows.callWith_type1 (PyProof.Rows.args_cons ?_ rfl) rfl rfl
  refine Call_ (ld_blt I hg2 hm2 PyProof.Rows.boot_zip (PyProof.Rows.callWith_type1 (thn (ha.run q pins s σ H (fun xs H1 => ∃ (ρ1 : List Addr) (S1 : Sto) (d2 : D) (ws : List Key) (p2 : List D × (Sto → Prop)), Ext ρ H ρ1 H1 ∧ XW X ρ1 S1 H1 ∧ VRs X.K ρ1 H1 [.tup (ws.map kD), d2] xs ∧ lstD S1 d2 = some p2 ∧ ∀ ep, R (.loc S1.length) (S1 ++ [.dct ep (zipK [] (ws.zip p2.1))])) I
    ⟨ρ, τ, S, _, W, er, h, fun ds S1 ⟨d2, ws, p2, e0, e3, e4⟩ ρ1 H1 xs y W1 r => ⟨ρ1, S1, d2, ws, p2, y, W1, e0 ▸ r, e3, e4⟩⟩) fun us s1 ⟨xs, H1, I1, r1, q1⟩ => ?_) hs hpl))
  obtain ⟨ρ1, S1, d2, ws, pr2, y, W1, r, e3, e4⟩ := q1
  obtain ⟨x1, x2, rfl, rv1, rv2⟩ := r.two_of
  obtain ⟨u1, u2, rfl, ru1, ru2⟩ := vals2 r1
  obtain ⟨a, vs1, rfl, hq1, hv1⟩ := rv1.tup_of
  obtain ⟨b, vs2, rfl, hq2, hv2, _⟩ := lstD_ok W1 rv2 e3
  cases (show u1 = Value.ref a from ru1)
  cases (show u2 = Value.ref b from ru2)
  obtain ⟨its, rx, p1, hz1⟩ := I1.tuple hq1.sq
  obtain ⟨its2, ry, p2, hz2⟩ := I1.list hq2
  have la : a < s1.heap.objs.size := by
    obtain ⟨o, g, _⟩ := (show s1.heap.IsTuple a its.toArray from p1)
    exact Heap.lt_size g
  have lb : b < s1.heap.objs.size := p2.lt
  refine call_zx p1 p2.isList fun h' hz hTI hTO h1 h2 hsz hk => ?_
  refine PyProof.Rows.args_nil ?_
  obtain ⟨k1, k2⟩ := keys_is hv1 rx
  have hlen : (ws.zip its2).length = min its.toArray.size its2.toArray.size := by simp [k1]
  have D4 := PySem.W.ktu_apart s1.heap.objs.size a b la lb
  have N1 := nx_tup (prog := X.prog) (w := X.w) (xs := its.toArray) D4.l1i1
  have N2 := nx_list (prog := X.prog) (w := X.w) (xs := its2.toArray) D4.l2i2
  refine call_dict_pairs (knd := mixKind X.prog X.w) (kvs := ws.zip its2) (zx_arg (n := min its.toArray.size its2.toArray.size) D4 N1 N2 (fun i hi => ?_) ?_) (I1.ok.hd hc)
    ⟨hz, hTI, ⟨_, _, hTO⟩, ⟨h1, (show s1.heap.IsTuple a its.toArray from p1).at fun o e => hk _ o e⟩, h2, p2.isList.at fun o e => hk _ o e⟩ ⟨hlen, fun i key v ⟨g1, g2⟩ => ?_⟩ ?_ fun h'' tk hd hkk => ?_
  · exact ⟨⟨_, Array.getElem?_eq_getElem (Nat.lt_of_lt_of_le hi (Nat.min_le_left ..))⟩, ⟨_, Array.getElem?_eq_getElem (Nat.lt_of_lt_of_le hi (Nat.min_le_right ..))⟩⟩
  · rcases Nat.le_total its.toArray.size its2.toArray.size with hle | hle
    · exact .inl (Array.getElem?_eq_none (by rw [Nat.min_eq_left hle]; exact Nat.le_refl _))
    · exact .inr (Array.getElem?_eq_none (by rw [Nat.min_eq_right hle]; exact Nat.le_refl _))
  · obtain ⟨w, hw, hi⟩ := k2 i key (by simpa using g1)
    refine ⟨w, ?_, hi⟩
    rw [List.getElem?_zip_eq_some]
    exact ⟨hw, by simpa using g2⟩
  · have : its2.toArray.size ≤ sizeLine := by have := ry.length; simp; omega
    omega
  obtain ⟨o, es, ep', ho, hx, hdat, hks, hpr, hnd⟩ := hd
  have hob : DictObj h'.objs.size es ep' h'' := ⟨o, ho, hx, hdat⟩
  have keep : ∀ b o, s1.heap.get? b = some o → h''.get? b = some o := fun b o e => hkk b o (by
    have := Heap.lt_size e
    simp only [List.mem_cons, List.not_mem_nil, or_false, not_or]
    refine ⟨?_, ?_, ?_, ?_⟩ <;> exact (by intro z; rw [z] at this; exact absurd this (by first | exact Nat.lt_irrefl _ | (refine Nat.not_lt.mpr (Nat.le_add_right _ _))))) (hk b o e)
  have hsz' : s1.heap.objs.size ≤ h'.objs.size := by rw [hsz]; exact Nat.le_add_right _ _
  have I2 := I1.laid (a := h'.objs.size) (o := .ext (DictObj h'.objs.size es ep')) (h' := h'') (t' := tk) keep hsz' (ext_ok hob)
  have hn : H1 h'.objs.size = none := I1.hok.fresh hsz'
  refine ⟨.ref h'.objs.size, _, I2, rfl, ?_⟩
  have vx := (ext_alloc (ρ := ρ1) (u := .ext (DictObj h'.objs.size es ep')) hn).vx W1.sep
  have txp : Paired (TkE X ρ1 H1) (zipK [] (ws.zip pr2.1)) (PySem.merged [] (ws.zip its2)) := tk_zip .nil (vals_zip hv2 ry)
  have hml := merged_len (ws.zip its2) []
  have hzl : (zipK [] (ws.zip pr2.1)).length ≤ sizeLine := by
    have e5 : (zipK [] (ws.zip pr2.1)).length = (PySem.merged [] (ws.zip its2)).length := by have := congrArg List.length (tk_nodup txp); simpa using this
    have : its2.toArray.size ≤ sizeLine := by have := ry.length; simp; omega
    simp only [List.length_nil, Nat.zero_add] at hml
    omega
  have hbig := I1.big
  have hsys : (h'.objs.size == sysModules) = false := beq_eq_false_iff_ne.mpr (Ne.symm (Nat.ne_of_lt (Nat.lt_of_lt_of_le hbig hsz')))
  have hnd2 : ((zipK [] (ws.zip pr2.1)).map fun p => keyOf p.1).Nodup := by
    rw [tk_nodup txp]
    have e6 : ((PySem.merged [] (ws.zip its2)).map fun q => keyOf (kD q.1)) = ((PySem.merged [] (ws.zip its2)).map (·.1)).map fun x => keyOf (kD x) := by rw [List.map_map]; rfl
    rw [e6, List.nodup_iff_pairwise_ne, List.pairwise_map]
    refine (List.nodup_iff_pairwise_ne.mp hnd).imp fun {a b} ne e => ne ?_
    cases a <;> cases b <;> simp [kD, keyOf] at e <;> simp [e]
  refine pe _ _ (e4 ep') _ _ _ (y.trans W1.sep (ext_alloc hn)) (W1.alloc hn ⟨hsys, hzl, hnd2, es, upd_same, ?_⟩) (.loc (by rw [← W1.len]; exact List.getElem?_concat_length ..))
  refine Paired.mapP (tk_ent txp hpr fun e he => ?_) fun p e z => z.vx vx
  exact hks e (Array.mem_toList_iff.mp he)
end
section
variable {τ : DEnv} {S : Sto} {R : DQ} {wr : WA}
@[simp ↓] theorem wDictZipK_ap : wDictZipK wr τ S R = wr τ S fun ds S1 => ∃ (d2 : D) (ws : List Key) (p2 : List D × (Sto → Prop)), ds = [.tup (ws.map kD), d2] ∧ lstD S1 d2 = some p2 ∧ ∀ ep, R (.loc S1.length) (S1 ++ [.dct ep (zipK [] (ws.zip p2.1))]) := rfl
end
end Dl

namespace Dl
open PySem L2 PyProof.Rows PySem.Spec

/-! ## tuple(range(n)) -/
theorem boot_tupleT : bootBuiltins "tuple" = some (.type "tuple") := by decide +kernel
def wTupRange (we : WE) : WE := fun τ S R => we τ S fun d S1 => ∃ n : Nat, d = .int (n : Int) ∧ n ≤ 16000000 ∧ R (.tup (rangeD 0 n)) S1
section
variable {X : Cx} {a : Expr} {we : WE} {p p2 q pos : Pos}
theorem de_tupRange (hc : X.calm = true) (hg : Gl X "tuple") (hm : X.mg "tuple" = none) (hg2 : Gl X "range") (hm2 : X.mg "range" = none) (ha : PE X a (dE X we))
    (na : starEach [a] X.env = (false, eval a X.env) :: starEach [] X.env := by rfl) : PE X (.Call (.Name "tuple" p) [.Call (.Name "range" p2) [a] [] q] [] pos) (dE X (wTupRange we)) := by
  refine ⟨fun pins s σ H Q I ⟨ρ, τ, S, R, W, er, h, pe⟩ => ?_⟩
  refine Call_ (ld_blt I hg hm boot_tupleT ?_)
  refine PyProof.Rows.callWith_type1 (PyProof.Rows.args_cons ?_ rfl) rfl rfl
  refine Call_ (ld_blt I hg2 hm2 boot_rangeT ?_)
  refine PyProof.Rows.callWith_type1 (PyProof.Rows.args_cons (thn (ha.run pins s σ H (fun x H1 => ∃ (ρ1 : List Addr) (S1 : Sto) (n : Nat), x = .int (n : Int) ∧ Ext ρ H ρ1 H1 ∧ XW X ρ1 S1 H1 ∧ n ≤ 16000000 ∧ R (.tup (rangeD 0 n)) S1) I
    ⟨ρ, τ, S, _, W, er, h, fun d S1 ⟨n, e1, e2, e3⟩ ρ1 H1 x y W1 r => by subst e1; exact ⟨ρ1, S1, n, r.int_of, y, W1, e2, e3⟩⟩) fun v s1 ⟨x, H1, I1, r1, q1⟩ => PyProof.Rows.args_nil ?_) na) na rfl
  obtain ⟨ρ1, S1, n, rfl, y, W1, hn, e3⟩ := q1
  obtain ⟨t, rfl⟩ := (show ∃ t, v = Value.int (n : Int) t from r1)
  refine call_range_1 ?_
  refine PyProof.Rows.args_nil ?_
  generalize hh : s1.heap.push { cls := .type "range", data := .fields #[.int 0 s1.toks, .int (n : Int) t, .int 1 (s1.toks + 1)] } = h1
  have hr : IsRange h1 s1.heap.objs.size 0 (n : Int) 1 s1.toks t (s1.toks + 1) := by rw [← hh]; exact IsRange.new _ _ _ _ _ _ _
  have I2 : L2.Inv X pins σ H1 { s1 with heap := h1, toks := s1.toks + 1 + 1 } := I1.kept fun b o e => by rw [← hh]; exact Heap.get?_push_of_some _ e
  have hsz : Builtin.Range.rangeSize 0 (n : Int) 1 = ((n : Nat) : Int) := by
    unfold Builtin.Range.rangeSize
    rw [if_pos (by decide)]
    split <;> omega
  refine L2.call_tuple_range (s := { s1 with heap := h1, toks := s1.toks + 1 + 1 }) (n := n) (I1.ok.hd hc) hr (by unfold Builtin.Range.small Builtin.Range.rangeFitsLong; rw [hsz]; simp; omega) hsz (by omega) fun h' tk acc hk hacc => ?_
  have I2' : L2.Inv X pins σ H1 { s1 with heap := h', toks := tk } := I2.kept fun b o e => hk b o e
  have hnn := I2'.hok.fresh (Nat.le_refl h'.objs.size)
  have vr : VRs X.K ρ1 H1 (rangeD 0 n) ((List.range n).map fun i => V.int (0 + (i : Nat))) := by
    have : ∀ l : List Nat, VRs X.K ρ1 H1 (l.map fun i : Nat => D.int (0 + (i : Int))) (l.map fun i => V.int (0 + (i : Nat))) := by
      intro l
      induction l with
      | nil => exact .nil
      | cons i l ih => exact .cons .int ih
    exact this _
  have hv : Vals ((List.range n).map fun i => V.int (0 + (i : Nat))) acc.toList := vals_at (by simp [hacc.1]) fun j u e => by
    obtain ⟨t, e2⟩ := hacc.2 j u (by rw [← Array.getElem?_toList]; exact e)
    have hj : j < n := by
      have := (List.getElem?_eq_some_iff.mp e).1
      rw [Array.length_toList, hacc.1] at this
      exact this
    refine ⟨V.int (0 + (j : Nat)), by rw [List.getElem?_map, List.getElem?_range hj]; rfl, t, ?_⟩
    rw [e2]
    congr 1
    omega
  have hz : ((List.range n).map fun i : Nat => V.int (0 + (i : Nat))).length ≤ sizeLine := by have := sizeLine_eq; simp; omega
  have I3 := I2'.laid (a := h'.objs.size) (o := .tup ((List.range n).map fun i => V.int (0 + (i : Nat)))) (h' := h'.push { cls := .type "tuple", data := .seq acc }) (t' := tk) (fun b o q => Heap.get?_push_of_some _ q) (Nat.le_refl _) ⟨hz, acc.toList, hv, by rw [Array.toArray_toList]; exact IsTup.new _ _⟩
  exact ⟨.ref h'.objs.size, _, I3, rfl, new_tup W1 vr e3 (pe.ext W1 y) hnn⟩
end
section
variable {τ : DEnv} {S : Sto} {R : DQ} {we : WE}
@[simp ↓] theorem wTupRange_ap : wTupRange we τ S R = we τ S fun d S1 => ∃ n : Nat, d = .int (n : Int) ∧ n ≤ 16000000 ∧ R (.tup (rangeD 0 n)) S1 := rfl
end
end Dl

namespace Dl
open PySem L2 PyProof.Rows PySem.Spec

/-! ## a comprehension within a comprehension's block -/
def rlb (env : Env) (p : Str × NameKind) : Str × NameKind := if (p.2 == NameKind.free && env.scope.kind == ScopeKind.function && env.kindOf p.1 == some NameKind.cell) = true then (p.1, NameKind.cell) else (p.1, p.2)
theorem lookup_seen {env : Env} : ∀ {names : List (Str × NameKind)} {x : Str}, names.lookup x = some .cell ∨ names.lookup x = some .free → (names.map (rlb env)).lookup x = some .cell ∨ (names.map (rlb env)).lookup x = some .free
  | [], _, h => by simp at h
  | (n, k) :: r, x, h => by
    have ih := @lookup_seen env r x
    rw [List.map_cons]
    unfold rlb at ih ⊢
    cases hx : x == n with
    | true =>
      simp only [List.lookup_cons, hx] at h
      split
      · exact .inl (by simp [List.lookup_cons, hx])
      · rcases h with h | h
        · exact .inl (by simpa [List.lookup_cons, hx] using h)
        · exact .inr (by simpa [List.lookup_cons, hx] using h)
    | false =>
      simp only [List.lookup_cons, hx] at h
      split
      · simpa only [List.lookup_cons, hx] using ih h
      · simpa only [List.lookup_cons, hx] using ih h
theorem blk_in {N : List Str} {s scope : Scope} {own : List (Str × Nat)} {env : Env} (h : BlkOk N s scope own) : BlkOk N (relabel s env) scope own :=
  ⟨h.kind, h.uniq, h.ix, fun y hy e => lookup_seen (env := env) (h.free y hy e), h.own⟩
end Dl

namespace Kk46
open PySem L2 Dl
/-- rank(thing): slots 0 thing, 1 part -/
def w_rank (sp_rank : DSp) : WS :=
  (wSeq (wIfS (wTruth (wIsi "int" (wVar 0)))
    (wRet (wTup (wCons (wC (.int 0)) (wCons (wVar 0) wNil))))
    wSkip)
  (wRet (wTup (wCons (wC (.int 1)) (wCons (wOp dIx (wVar 0) (wC (.int 0))) (wCons (wCB dLen (wCons (wVar 0) wNil)) (wCons (wCB dTuple (wCons (wLc (wiAny (wSl dSl (wVar 0) (wPart (wC (.int 1))) wNoPart)) (wgName 1) wYes (wCall sp_rank (wCons (wVar 1) wNil)) [1]) wNil)) wNil)))))))
/-- ordered(things): slots 0 things, 1 found, 2 thing -/
def w_ordered (sp_rank : DSp) : WS :=
  (wSeq (wAsg wDct0 (wgName 1))
  (wSeq (wFor (wiAny (wVar 0)) (wgName 2)
    (wAsg (wC (.bl true)) (wgSub (wVar 1) (wVar 2) dSet)))
  (wRet (wSortK sp_rank (wCons (wVar 1) wNil)))))
/-- sorted_rows(rows): slots 0 rows, 1 made, 2 row -/
def w_sorted_rows (sp_ordered : DSp) : WS :=
  (wRet (wLc (wiAny (wCall sp_ordered (wCons (wLc (wiAny (wVar 0)) (wgName 2) wYes (wOp dAdd (wTup (wCons (wC (.str "row")) wNil)) (wVar 2)) [2]) wNil))) (wgName 1) wYes (wSl dSl (wVar 1) (wPart (wC (.int 1))) wNoPart) [1]))
/-- Shelf.__init__(self, n, orders): slots 0 self, 1 n, 2 orders, 3 order -/
def w_Shelf___init__ : WS :=
  (wSeq (wFldS "Shelf" "many" (wVar 1) (wVar 0))
  (wSeq (wFldS "Shelf" "by" (wLc (wiAny (wVar 2)) (wgName 3) wYes (wCB dTuple (wCons (wVar 3) wNil)) [3]) (wVar 0))
  (wSeq (wFldS "Shelf" "kept" wDct0 (wVar 0))
  (wFldS "Shelf" "beginnings" wDct0 (wVar 0)))))
/-- Shelf.keys_of(self, row): slots 0 self, 1 row, 2 found, 3 number, 4 order, 5 many, 6 place -/
def w_Shelf_keys_of : WS :=
  (wSeq (wAsg (wLst wNil) (wgName 2))
  (wSeq (wFor (wiEnumA (wCons (wFld "Shelf" "by" (wVar 0)) wNil)) (wgTup 2 (wgCons (wgName 3) (wgCons (wgName 4) wgNil)))
    (wFor (wiRange1 (wCons (wOp dAdd (wFld "Shelf" "many" (wVar 0)) (wC (.int 1))) wNil)) (wgName 5)
    (wDrop (wMt "list" dAppend (wVar 2) (wCons (wTup (wCons (wVar 3) (wCons (wCB dTuple (wCons (wLc (wiAny (wSl dSl (wVar 4) wNoPart (wPart (wVar 5)))) (wgName 6) wYes (wOp dIx (wVar 1) (wVar 6)) [6]) wNil)) wNil))) wNil)))))
  (wRet (wVar 2))))
/-- Shelf.add(self, row): slots 0 self, 1 row, 2 key -/
def w_Shelf_add (sp_Shelf_keys_of : DSp) : WS :=
  (wSeq (wIfS (wTest (wOp dIn (wVar 1) (wFld "Shelf" "kept" (wVar 0))))
    (wRet (wC (.bl false)))
    wSkip)
  (wSeq (wAsg (wC (.bl true)) (wgSub (wFld "Shelf" "kept" (wVar 0)) (wVar 1) dSet))
  (wSeq (wFor (wiAny (wMeth "Shelf" "keys_of" sp_Shelf_keys_of (wVar 0) (wCons (wVar 1) wNil))) (wgName 2)
    (wAsg (wC (.bl true)) (wgSub (wMtD dSetdef (wFld "Shelf" "beginnings" (wVar 0)) (wCons (wVar 2) (wCons wDct0 wNil))) (wVar 1) dSet)))
  (wRet (wC (.bl true))))))
/-- Shelf.take(self, row): slots 0 self, 1 row, 2 key -/
def w_Shelf_take (sp_Shelf_keys_of : DSp) : WS :=
  (wSeq (wIfS (wTest (wOp dNotIn (wVar 1) (wFld "Shelf" "kept" (wVar 0))))
    (wRet (wC (.bl false)))
    wSkip)
  (wSeq (wDrop (wMtD dPopK (wFld "Shelf" "kept" (wVar 0)) (wCons (wVar 1) wNil)))
  (wSeq (wFor (wiAny (wMeth "Shelf" "keys_of" sp_Shelf_keys_of (wVar 0) (wCons (wVar 1) wNil))) (wgName 2)
    (wDrop (wMtD dPopK (wOp dIx (wFld "Shelf" "beginnings" (wVar 0)) (wVar 2)) (wCons (wVar 1) wNil))))
  (wRet (wC (.bl true))))))
/-- Shelf.rows(self): slots 0 self -/
def w_Shelf_rows (sp_sorted_rows : DSp) : WS :=
  (wRet (wCall sp_sorted_rows (wCons (wCB dListA (wCons (wFld "Shelf" "kept" (wVar 0)) wNil)) wNil)))
/-- Shelf.found(self, places, things): slots 0 self, 1 places, 2 things, 3 told, 4 number, 5 order, 6 first, 7 key, 8 place -/
def w_Shelf_found (sp_sorted_rows : DSp) : WS :=
  (wSeq (wAsg (wDictZipK (wCons (wVar 1) (wCons (wVar 2) wNil))) (wgName 3))
  (wSeq (wFor (wiEnumA (wCons (wFld "Shelf" "by" (wVar 0)) wNil)) (wgTup 2 (wgCons (wgName 4) (wgCons (wgName 5) wgNil)))
    (wSeq (wAsg (wSl dSl (wVar 5) wNoPart (wPart (wCB dLen (wCons (wVar 1) wNil)))) (wgName 6))
  (wIfS (wTest (wOp dEq (wCB dSortD (wCons (wVar 6) wNil)) (wCB dSortD (wCons (wVar 1) wNil))))
    (wSeq (wAsg (wTup (wCons (wVar 4) (wCons (wCB dTuple (wCons (wLc (wiAny (wVar 6)) (wgName 8) wYes (wOp dIx (wVar 3) (wVar 8)) [8]) wNil)) wNil))) (wgName 7))
  (wRet (wCall sp_sorted_rows (wCons (wCB dListA (wCons (wMtD dGetM (wFld "Shelf" "beginnings" (wVar 0)) (wCons (wVar 7) (wCons wDct0 wNil))) wNil)) wNil))))
    wSkip)))
  (wRet (wLst wNil))))
/-- _law_cell_at(script, k): slots 0 script, 1 k -/
def w_law_cell_at : WS :=
  (wSeq (wIfS (wTest (wOp dLt (wVar 1) (wCB dLen (wCons (wVar 0) wNil))))
    (wRet (wOp dIx (wVar 0) (wVar 1)))
    wSkip)
  (wRet (wC (.int 0))))
/-- _law_left(script, k): slots 0 script, 1 k, 2 cell, 3 seed -/
def w_law_left (sp_law_cell_at : DSp) : WS :=
  (wSeq (wAsg (wCall sp_law_cell_at (wCons (wVar 0) (wCons (wVar 1) wNil))) (wgName 2))
  (wSeq (wAsg (wOp dMod (wOp dMul (wOp dAdd (wOp dAdd (wOp dMod (wVar 2) (wC (.int 2147483629))) (wOp dMul (wOp dMul (wC (.int 7919)) (wVar 1)) (wVar 1))) (wC (.int 11))) (wC (.int 48271))) (wC (.int 2147483647))) (wgName 3))
  (wSeq (wIfS (wTest (wOp dEq (wOp dMod (wCall sp_law_cell_at (wCons (wVar 0) (wCons (wC (.int 0)) wNil))) (wC (.int 2))) (wC (.int 0))))
    (wAsg (wC (.int 0)) (wgName 2))
    wSkip)
  (wRet (wLst (wCons (wOp dMod (wVar 2) (wOp dPow (wC (.int 10)) (wC (.int 30)))) (wCons (wVar 3) wNil)))))))
/-- _law_pick(left, many): slots 0 left, 1 many, 2 digit -/
def w_law_pick : WS :=
  (wSeq (wIfS (wTest (wOp dGt (wOp dIx (wVar 0) (wC (.int 0))) (wC (.int 0))))
    (wSeq (wAsg (wOp dMod (wOp dIx (wVar 0) (wC (.int 0))) (wVar 1)) (wgName 2))
  (wSeq (wAsg (wOp dDiv (wOp dIx (wVar 0) (wC (.int 0))) (wVar 1)) (wgSub (wVar 0) (wC (.int 0)) dSet))
  (wRet (wVar 2))))
    wSkip)
  (wSeq (wAsg (wOp dMod (wOp dAdd (wOp dMul (wOp dIx (wVar 0) (wC (.int 1))) (wC (.int 48271))) (wC (.int 12345))) (wC (.int 2147483647))) (wgSub (wVar 0) (wC (.int 1)) dSet))
  (wRet (wOp dMod (wOp dMod (wOp dMul (wOp dIx (wVar 0) (wC (.int 1))) (wOp dIx (wVar 0) (wC (.int 1)))) (wC (.int 1999999973))) (wVar 1)))))
/-- _law_thing(left, deep): slots 0 left, 1 deep, 2 way, 3 word, 4 k -/
def w_law_thing (sp_law_pick : DSp) (sp_law_thing : DSp) : WS :=
  (wSeq (wAsg (wCall sp_law_pick (wCons (wVar 0) (wCons (wC (.int 6)) wNil))) (wgName 2))
  (wSeq (wIfS (wAnd (wTest (wOp dLt (wVar 2) (wC (.int 3)))) (wTest (wOp dGt (wVar 1) (wC (.int 0)))))
    (wSeq (wAsg (wOp dIx (wLst (wCons (wC (.str "a")) (wCons (wC (.str "b")) (wCons (wC (.str "a1")) (wCons (wC (.str "ab")) (wCons (wC (.str "b.c")) wNil)))))) (wCall sp_law_pick (wCons (wVar 0) (wCons (wC (.int 5)) wNil)))) (wgName 3))
  (wRet (wOp dAdd (wTup (wCons (wVar 3) wNil)) (wCB dTuple (wCons (wLc (wiRange1 (wCons (wOp dIx (wLst (wCons (wC (.int 0)) (wCons (wC (.int 1)) (wCons (wC (.int 2)) (wCons (wC (.int 1)) (wCons (wC (.int 4)) wNil)))))) (wCall sp_law_pick (wCons (wVar 0) (wCons (wC (.int 5)) wNil)))) wNil)) (wgName 4) wYes (wCall sp_law_thing (wCons (wVar 0) (wCons (wOp dSub (wVar 1) (wC (.int 1))) wNil))) [4]) wNil)))))
    wSkip)
  (wSeq (wIfS (wTest (wOp dEq (wVar 2) (wC (.int 3))))
    (wRet (wOp dIx (wLst (wCons (wOp dSub (wOp dPow (wC (.int 10)) (wC (.int 40))) (wC (.int 1))) (wCons (wOp dSub (wC (.int 1)) (wOp dPow (wC (.int 10)) (wC (.int 40)))) (wCons (wOp dPow (wC (.int 10)) (wC (.int 20))) wNil)))) (wCall sp_law_pick (wCons (wVar 0) (wCons (wC (.int 3)) wNil)))))
    wSkip)
  (wRet (wOp dSub (wCall sp_law_pick (wCons (wVar 0) (wCons (wC (.int 5)) wNil))) (wC (.int 2)))))))
/-- _law_rank(thing): slots 0 thing, 1 part -/
def w_law_rank (sp_law_rank : DSp) : WS :=
  (wSeq (wIfS (wTruth (wIsi "int" (wVar 0)))
    (wRet (wTup (wCons (wC (.int 0)) (wCons (wVar 0) wNil))))
    wSkip)
  (wRet (wTup (wCons (wC (.int 1)) (wCons (wOp dIx (wVar 0) (wC (.int 0))) (wCons (wCB dLen (wCons (wVar 0) wNil)) (wCons (wCB dTuple (wCons (wLc (wiAny (wSl dSl (wVar 0) (wPart (wC (.int 1))) wNoPart)) (wgName 1) wYes (wCall sp_law_rank (wCons (wVar 1) wNil)) [1]) wNil)) wNil)))))))
/-- _law_row_rank(row): slots 0 row, 1 thing -/
def w_law_row_rank (sp_law_rank : DSp) : WS :=
  (wRet (wLc (wiAny (wVar 0)) (wgName 1) wYes (wCall sp_law_rank (wCons (wVar 1) wNil)) [1]))
/-- _law_sorted(rows): slots 0 rows -/
def w_law_sorted (sp_law_row_rank : DSp) : WS :=
  (wRet (wSortKL sp_law_row_rank (wCons (wVar 0) wNil)))
/-- _law_orders_drawn(left, size): slots 0 left, 1 size, 2 lines, 3 k, 4 order, 5 place -/
def w_law_orders_drawn (sp_law_pick : DSp) : WS :=
  (wSeq (wAsg (wLst wNil) (wgName 2))
  (wSeq (wFor (wiRange1 (wCons (wOp dIx (wLst (wCons (wC (.int 1)) (wCons (wC (.int 2)) (wCons (wC (.int 3)) (wCons (wC (.int 1)) (wCons (wC (.int 8)) (wCons (wC (.int 0)) wNil))))))) (wCall sp_law_pick (wCons (wVar 0) (wCons (wC (.int 6)) wNil)))) wNil)) (wgName 3)
    (wSeq (wAsg (wLst wNil) (wgName 4))
  (wSeq (wFor (wiRange1 (wCons (wVar 1) wNil)) (wgName 5)
    (wDrop (wMt "list" dInsert (wVar 4) (wCons (wCall sp_law_pick (wCons (wVar 0) (wCons (wOp dAdd (wCB dLen (wCons (wVar 4) wNil)) (wC (.int 1))) wNil))) (wCons (wVar 5) wNil)))))
  (wDrop (wMt "list" dAppend (wVar 2) (wCons (wCB dTuple (wCons (wVar 4) wNil)) wNil))))))
  (wRet (wVar 2))))
/-- _law_row(left, size, some): slots 0 left, 1 size, 2 some, 3 k -/
def w_law_row (sp_law_pick : DSp) : WS :=
  (wRet (wCB dTuple (wCons (wLc (wiRange1 (wCons (wVar 1) wNil)) (wgName 3) wYes (wOp dIx (wVar 2) (wCall sp_law_pick (wCons (wVar 0) (wCons (wCB dLen (wCons (wVar 2) wNil)) wNil)))) [3]) wNil)))
/-- _law_told(found, due): slots 0 found, 1 due, 2 row -/
def w_law_told : WS :=
  (wSeq (wIfS (wOr (wNot (wTruth (wIsi "list" (wVar 0)))) (wNot (wTruth (wCB dAll (wCons (wLc (wiAny (wVar 0)) (wgName 2) wYes (wIsi "tuple" (wVar 2)) [2]) wNil)))))
    (wRet (wC (.bl false)))
    wSkip)
  (wRet (wOp dEq (wVar 0) (wVar 1))))
/-- _law_found_right(left, held, some): slots 0 left, 1 held, 2 some, 3 shelf, 4 size, 5 lines, 6 kept, 7 order, 8 places, 9 row, 10 things, 11 due, 12 turn, 13 handed, 14 found, 15 place, 16 one -/
def w_law_found_right (sp_law_pick : DSp) (sp_law_row : DSp) (sp_Shelf_found : DSp) (sp_law_told : DSp) (sp_law_sorted : DSp) : WS :=
  (wSeq (wAsg (wVar 1) (wgTup 4 (wgCons (wgName 3) (wgCons (wgName 4) (wgCons (wgName 5) (wgCons (wgName 6) wgNil))))))
  (wSeq (wAsg (wOp dIx (wVar 5) (wCall sp_law_pick (wCons (wVar 0) (wCons (wCB dLen (wCons (wVar 5) wNil)) wNil)))) (wgName 7))
  (wSeq (wAsg (wCB dTuple (wCons (wCB dSortD (wCons (wSl dSl (wVar 7) wNoPart (wPart (wCall sp_law_pick (wCons (wVar 0) (wCons (wOp dAdd (wVar 4) (wC (.int 1))) wNil))))) wNil)) wNil)) (wgName 8))
  (wSeq (wAsg (wCall sp_law_row (wCons (wVar 0) (wCons (wVar 4) (wCons (wVar 2) wNil)))) (wgName 9))
  (wSeq (wIfS (wAnd (wTest (wOp dNeE (wVar 6) (wLst wNil))) (wTest (wOp dGt (wCall sp_law_pick (wCons (wVar 0) (wCons (wC (.int 4)) wNil))) (wC (.int 0)))))
    (wAsg (wOp dIx (wVar 6) (wCall sp_law_pick (wCons (wVar 0) (wCons (wCB dLen (wCons (wVar 6) wNil)) wNil)))) (wgName 9))
    wSkip)
  (wSeq (wAsg (wLc (wiAny (wVar 8)) (wgName 15) wYes (wOp dIx (wVar 9) (wVar 15)) [15]) (wgName 10))
  (wSeq (wAsg (wLc (wiAny (wVar 6)) (wgName 16) (wTest (wOp dEq (wLc (wiAny (wVar 8)) (wgName 15) wYes (wOp dIx (wVar 16) (wVar 15)) [15]) (wVar 10))) (wVar 16) [16]) (wgName 11))
  (wSeq (wFor (wiRange1 (wCons (wC (.int 2)) wNil)) (wgName 12)
    (wSeq (wAsg (wCB dListA (wCons (wVar 10) wNil)) (wgName 13))
  (wSeq (wAsg (wMeth "Shelf" "found" sp_Shelf_found (wVar 3) (wCons (wVar 8) (wCons (wVar 13) wNil))) (wgName 14))
  (wSeq (wIfS (wOr (wNot (wTruth (wCall sp_law_told (wCons (wVar 14) (wCons (wCall sp_law_sorted (wCons (wVar 11) wNil)) wNil))))) (wTest (wOp dNe (wVar 13) (wVar 10))))
    (wRet (wC (.bl false)))
    wSkip)
  (wDrop (wMt0 "list" dClear (wVar 14)))))))
  (wRet (wC (.bl true)))))))))))
/-- law(script): slots 0 script, 1 left, 2 k, 3 some, 4 shelves, 5 size, 6 lines, 7 shelf, 8 kept, 9 row, 10 held -/
def w_law (sp_law_left : DSp) (sp_law_pick : DSp) (sp_law_thing : DSp) (sp_law_orders_drawn : DSp) (sp_Shelf___init__ : DSp) (sp_law_row : DSp) (sp_Shelf_take : DSp) (sp_Shelf_add : DSp) (sp_law_found_right : DSp) : WS :=
  (wSeq (wAsg (wCall sp_law_left (wCons (wVar 0) (wCons (wC (.int 2)) wNil))) (wgName 1))
  (wSeq (wAsg (wLc (wiRange1 (wCons (wOp dAdd (wC (.int 2)) (wCall sp_law_pick (wCons (wVar 1) (wCons (wC (.int 4)) wNil)))) wNil)) (wgName 2) wYes (wCall sp_law_thing (wCons (wVar 1) (wCons (wC (.int 3)) wNil))) [2]) (wgName 3))
  (wSeq (wAsg (wLst wNil) (wgName 4))
  (wSeq (wFor (wiRange1 (wCons (wC (.int 2)) wNil)) (wgName 2)
    (wSeq (wAsg (wCall sp_law_left (wCons (wVar 0) (wCons (wVar 2) wNil))) (wgName 1))
  (wSeq (wAsg (wOp dIx (wLst (wCons (wC (.int 0)) (wCons (wC (.int 1)) (wCons (wC (.int 2)) (wCons (wC (.int 3)) (wCons (wC (.int 4)) (wCons (wC (.int 8)) wNil))))))) (wCall sp_law_pick (wCons (wVar 1) (wCons (wC (.int 6)) wNil)))) (wgName 5))
  (wSeq (wAsg (wCall sp_law_orders_drawn (wCons (wVar 1) (wCons (wVar 5) wNil))) (wgName 6))
  (wSeq (wIfS (wTest (wOp dEq (wVar 6) (wLst wNil)))
    (wAsg (wLst (wCons (wTupRange (wVar 5)) wNil)) (wgName 6))
    wSkip)
  (wDrop (wMt "list" dAppend (wVar 4) (wCons (wTup (wCons (wMake "Shelf" sp_Shelf___init__ (wCons (wVar 5) (wCons (wCB dListA (wCons (wVar 6) wNil)) wNil))) (wCons (wVar 5) (wCons (wVar 6) (wCons (wLst wNil) wNil))))) wNil))))))))
  (wSeq (wFor (wiRange2 (wCons (wC (.int 3)) (wCons (wCB dMax2 (wCons (wC (.int 6)) (wCons (wCB dMin2 (wCons (wCB dLen (wCons (wVar 0) wNil)) (wCons (wC (.int 62)) wNil))) wNil))) wNil))) (wgName 2)
    (wSeq (wAsg (wCall sp_law_left (wCons (wVar 0) (wCons (wVar 2) wNil))) (wgName 1))
  (wSeq (wAsg (wOp dIx (wVar 4) (wCall sp_law_pick (wCons (wVar 1) (wCons (wC (.int 2)) wNil)))) (wgTup 4 (wgCons (wgName 7) (wgCons (wgName 5) (wgCons (wgName 6) (wgCons (wgName 8) wgNil))))))
  (wSeq (wAsg (wCall sp_law_row (wCons (wVar 1) (wCons (wVar 5) (wCons (wVar 3) wNil)))) (wgName 9))
  (wSeq (wIfS (wAnd (wTest (wOp dIn (wVar 9) (wVar 8))) (wTest (wOp dEq (wCall sp_law_pick (wCons (wVar 1) (wCons (wC (.int 2)) wNil))) (wC (.int 0)))))
    (wSeq (wDrop (wMeth "Shelf" "take" sp_Shelf_take (wVar 7) (wCons (wVar 9) wNil)))
  (wDrop (wMt "list" dRemove (wVar 8) (wCons (wVar 9) wNil))))
    (wSeq (wDrop (wMeth "Shelf" "add" sp_Shelf_add (wVar 7) (wCons (wVar 9) wNil)))
  (wIfS (wTest (wOp dNotIn (wVar 9) (wVar 8)))
    (wDrop (wMt "list" dAppend (wVar 8) (wCons (wVar 9) wNil)))
    wSkip)))
  (wIfS (wNot (wTruth (wCB dAll (wCons (wLc (wiAny (wVar 4)) (wgName 10) wYes (wCall sp_law_found_right (wCons (wVar 1) (wCons (wVar 10) (wCons (wVar 3) wNil)))) [10]) wNil))))
    (wRet (wC (.bl false)))
    wSkip))))))
  (wRet (wC (.bl true))))))))

/-- things: whole numbers, made things -/
inductive Th where
  | num (i : Int) | made (w : Str) (ts : List Th)
def Th.d : Th → D
  | .num i => .int i
  | .made w ts => .tup (.str w :: ts.map Th.d)
def okT : Nat → Th → Prop
  | _, .num i => i.natAbs < 2 ^ 200
  | 0, .made w ts => w.length ≤ 60 ∧ ts = []
  | n + 1, .made w ts => w.length ≤ 60 ∧ ts.length ≤ 9 ∧ ∀ t ∈ ts, okT n t
theorem okT_num {n : Nat} {i : Int} (h : i.natAbs < 2 ^ 200) : okT n (.num i) := by cases n <;> exact h
theorem okT_le : ∀ {n m : Nat} (t : Th), okT n t → n ≤ m → okT m t
  | 0, 0, t, h, _ => h
  | n, m, .num i, h, _ => by cases n <;> exact okT_num h
  | 0, m + 1, .made w ts, h, _ => by
    obtain ⟨h1, h2⟩ := h
    subst h2
    exact ⟨h1, by simp, by simp⟩
  | n + 1, 0, .made w ts, h, hm => by omega
  | n + 1, m + 1, .made w ts, h, hm => ⟨h.1, h.2.1, fun t ht => okT_le t (h.2.2 t ht) (by omega)⟩
theorem okT_made {n : Nat} {w : Str} {ts : List Th} (h : okT n (.made w ts)) : w.length ≤ 60 ∧ ts.length ≤ 9 ∧ ∀ t ∈ ts, okT (n - 1) t := by
  cases n with
  | zero =>
    obtain ⟨h1, h2⟩ := h
    subst h2
    exact ⟨h1, by simp, by simp⟩
  | succ n => exact h
theorem okT_plain : ∀ (n : Nat) (t : Th), okT n t → plainD (n + 1) t.d = true
  | n, .num i, _ => by simp [Th.d, plainD]
  | 0, .made w ts, h => by
    obtain ⟨h1, h2⟩ := h
    subst h2
    simp [Th.d, plainD, plainsD]
  | n + 1, .made w ts, h => by
    obtain ⟨h1, h2, h3⟩ := h
    rw [Th.d]
    refine plainD_tup.mpr ⟨by simp; omega, ?_⟩
    simp only [plainsD, plainD, Bool.true_and]
    refine plains_of fun d hd => ?_
    obtain ⟨t, ht, rfl⟩ := List.mem_map.mp hd
    exact okT_plain n t (h3 t ht)
theorem Th.d_inj : ∀ (a b : Th), a.d = b.d → a = b
  | .num i, .num j, h => by
    simp [Th.d] at h
    rw [h]
  | .num i, .made w ts, h => by simp [Th.d] at h
  | .made w ts, .num j, h => by simp [Th.d] at h
  | .made w ts, .made w' ts', h => by
    simp [Th.d] at h
    obtain ⟨h1, h2⟩ := h
    rw [h1, go ts ts' h2]
where go : ∀ (as bs : List Th), as.map Th.d = bs.map Th.d → as = bs
  | [], [], _ => rfl
  | [], _ :: _, h => by simp at h
  | _ :: _, [], h => by simp at h
  | a :: as, b :: bs, h => by
    simp at h
    rw [Th.d_inj a b h.1, go as bs h.2]
/-- how many things are in it -/
def Th.size : Th → Nat
  | .num _ => 1
  | .made _ ts => 1 + (ts.map Th.size).sum
theorem size_pos (t : Th) : 0 < t.size := by
  cases t with
  | num _ => simp [Th.size]
  | made _ _ => simp [Th.size]; omega
theorem size_le : ∀ (n : Nat) (t : Th), okT n t → t.size ≤ 10 ^ (n + 1)
  | n, .num i, _ => by
    simp only [Th.size]
    exact Nat.one_le_pow _ _ (by decide)
  | 0, .made w ts, h => by
    obtain ⟨_, h2⟩ := h
    subst h2
    simp [Th.size]
  | n + 1, .made w ts, h => by
    obtain ⟨_, h2, h3⟩ := h
    simp only [Th.size]
    have : (ts.map Th.size).sum ≤ ts.length * 10 ^ (n + 1) := by
      clear h2
      induction ts with
      | nil => simp
      | cons t ts ih =>
        have h4 := size_le n t (h3 t List.mem_cons_self)
        have h5 := ih fun t ht => h3 t (List.mem_cons_of_mem _ ht)
        simp only [List.map_cons, List.sum_cons, List.length_cons]
        rw [Nat.add_mul]
        omega
    have h6 : ts.length * 10 ^ (n + 1) ≤ 9 * 10 ^ (n + 1) := Nat.mul_le_mul_right _ h2
    have h7 : 1 ≤ 10 ^ (n + 1) := Nat.one_le_pow _ _ (by decide)
    rw [Nat.pow_succ 10 (n + 1)]
    omega
/-- the order of things -/
def Th.rank : Th → D
  | .num i => .tup [.int 0, .int i]
  | .made w ts => .tup [.int 1, .str w, .int ((ts.length : Nat) + 1), .tup (ts.map Th.rank)]
theorem rank_plain : ∀ (n : Nat) (t : Th), okT n t → plainD (2 * n + 3) t.rank = true
  | n, .num i, _ => by
    rw [Th.rank]
    exact plainD_tup.mpr ⟨by simp, by simp [plainsD, plainD]⟩
  | 0, .made w ts, h => by
    obtain ⟨h1, h2⟩ := h
    subst h2
    simp [Th.rank, plainD, plainsD]
  | n + 1, .made w ts, h => by
    obtain ⟨h1, h2, h3⟩ := h
    rw [Th.rank]
    refine plainD_tup.mpr ⟨by simp, ?_⟩
    simp only [plainsD, plainD, Bool.true_and, Bool.and_true]
    refine plainD_tup.mpr ⟨by simp; omega, plains_of fun d hd => ?_⟩
    obtain ⟨t, ht, rfl⟩ := List.mem_map.mp hd
    exact rank_plain n t (h3 t ht)
theorem Th.rank_inj : ∀ (a b : Th), a.rank = b.rank → a = b
  | .num i, .num j, h => by
    simp [Th.rank] at h
    rw [h]
  | .num i, .made w ts, h => by simp [Th.rank] at h
  | .made w ts, .num j, h => by simp [Th.rank] at h
  | .made w ts, .made w' ts', h => by
    simp [Th.rank] at h
    obtain ⟨h1, _, h2⟩ := h
    rw [h1, go ts ts' h2]
where go : ∀ (as bs : List Th), as.map Th.rank = bs.map Th.rank → as = bs
  | [], [], _ => rfl
  | [], _ :: _, h => by simp at h
  | _ :: _, [], h => by simp at h
  | a :: as, b :: bs, h => by
    simp at h
    rw [Th.rank_inj a b h.1, go as bs h.2]
noncomputable instance : DecidableEq Th := fun a b => Classical.propDecidable _
mutual
def Th.cmp : Th → Th → Int
  | .num i, .num j => (if j < i then 1 else 0) - (if i < j then 1 else 0)
  | .num _, .made _ _ => -1
  | .made _ _, .num _ => 1
  | .made w ts, .made w' ts' => if w ≠ w' then (if w.cps.toList < w'.cps.toList then -1 else 1) else if ts.length ≠ ts'.length then (if ts.length < ts'.length then -1 else 1) else Th.cmps ts ts'
def Th.cmps : List Th → List Th → Int
  | a :: as, b :: bs => if Th.cmp a b ≠ 0 then Th.cmp a b else Th.cmps as bs
  | _, _ => 0
end
theorem strLt_irrefl (x : Str) : ¬ x.cps.toList < x.cps.toList := List.lt_irrefl _
mutual
theorem cmp_zero : ∀ a b : Th, Th.cmp a b = 0 ↔ a = b
  | .num i, .num j => by
    simp only [Th.cmp, Th.num.injEq]
    split <;> split <;> omega
  | .num i, .made w ts => by simp [Th.cmp]
  | .made w ts, .num j => by simp [Th.cmp]
  | .made w ts, .made w' ts' => by
    simp only [Th.cmp, Th.made.injEq]
    by_cases h1 : w = w'
    · by_cases h2 : ts.length = ts'.length
      · simp [h1, h2, cmps_zero ts ts' h2]
      · have h3 : ts ≠ ts' := fun e => h2 (by rw [e])
        simp only [h1, ne_eq, not_true, if_false, h2, not_false_eq_true, if_true, true_and, h3, iff_false]
        split <;> decide
    · simp only [h1, ne_eq, not_false_eq_true, if_true, false_and, iff_false]
      split <;> decide
theorem cmps_zero : ∀ as bs : List Th, as.length = bs.length → (Th.cmps as bs = 0 ↔ as = bs)
  | [], [], _ => by simp [Th.cmps]
  | [], _ :: _, h => by simp at h
  | _ :: _, [], h => by simp at h
  | a :: as, b :: bs, h => by
    have h1 := cmp_zero a b
    have h2 := cmps_zero as bs (by simpa using h)
    simp only [Th.cmps, List.cons.injEq]
    by_cases e : Th.cmp a b = 0
    · have e' := h1.mp e
      subst e'
      simp [e, h2]
    · have : a ≠ b := fun q => e (h1.mpr q)
      simp [e, this]
end
def lt0 (i : Int) : Bool := decide (i < 0)
theorem ltDs_cons {n : Nat} {d c : D} {ds cs : List D} (hd : plainD n d = true) (hc : plainD n c = true) : ltDs (d :: ds) (c :: cs) = if d = c then ltDs ds cs else ltD d c := by
  obtain ⟨k1, h1, _⟩ := key_plain n d hd
  obtain ⟨k2, h2, _⟩ := key_plain n c hc
  have e : NestedKey.beq k1 k2 = true ↔ d = c := by
    refine ⟨fun q => ?_, fun q => ?_⟩
    · have := NestedKey.eq_of_beq k1 k2 q
      subst this
      exact key_inj n d c k1 hd hc h1 h2
    · subst q
      rw [h1] at h2
      cases h2
      exact NestedKey.beq_self _
  rw [ltDs]
  simp only [h1, h2, e]
mutual
theorem lt_rank : ∀ (n : Nat) (a b : Th), okT n a → okT n b → ltD a.rank b.rank = some (lt0 (Th.cmp a b))
  | n, .num i, .num j, ha, hb => by
    simp only [Th.rank, ltD]
    rw [ltDs_cons (n := 0) (by simp [plainD]) (by simp [plainD]), if_pos rfl, ltDs_cons (n := 0) (by simp [plainD]) (by simp [plainD])]
    by_cases h : i = j
    · simp [h, ltDs, Th.cmp, lt0]
    · simp only [D.int.injEq, h, if_false, ltD, Th.cmp]
      congr 1
      unfold lt0
      rw [decide_eq_decide]
      split <;> split <;> omega
  | n, .num i, .made w ts, ha, hb => by
    simp only [Th.rank, ltD]
    rw [ltDs_cons (n := 0) (by simp [plainD]) (by simp [plainD])]
    simp [ltD, Th.cmp, lt0]
  | n, .made w ts, .num j, ha, hb => by
    simp only [Th.rank, ltD]
    rw [ltDs_cons (n := 0) (by simp [plainD]) (by simp [plainD])]
    simp [ltD, Th.cmp, lt0]
  | n, .made w ts, .made w' ts', ha, hb => by
    obtain ⟨_, ha2, ha3⟩ := okT_made ha
    obtain ⟨_, hb2, hb3⟩ := okT_made hb
    have pa : plainD (2 * (n - 1) + 4) (.tup (ts.map Th.rank)) = true := plainD_tup.mpr ⟨by simp; omega, plains_of fun d hd => by
      obtain ⟨t, ht, rfl⟩ := List.mem_map.mp hd
      exact rank_plain _ t (ha3 t ht)⟩
    have pb : plainD (2 * (n - 1) + 4) (.tup (ts'.map Th.rank)) = true := plainD_tup.mpr ⟨by simp; omega, plains_of fun d hd => by
      obtain ⟨t, ht, rfl⟩ := List.mem_map.mp hd
      exact rank_plain _ t (hb3 t ht)⟩
    simp only [Th.rank, ltD]
    rw [ltDs_cons (n := 0) (by simp [plainD]) (by simp [plainD]), if_pos rfl, ltDs_cons (n := 0) (by simp [plainD]) (by simp [plainD])]
    simp only [Th.cmp]
    by_cases h1 : w = w'
    · rw [if_pos (by rw [h1]), if_neg (by simp [h1]), ltDs_cons (n := 0) (by simp [plainD]) (by simp [plainD])]
      by_cases h2 : ts.length = ts'.length
      · rw [if_pos (by rw [h2]), if_neg (by simp [h2]), ltDs_cons pa pb]
        by_cases h3 : ts = ts'
        · subst h3
          simp [ltDs, (cmps_zero ts ts rfl).mpr rfl, lt0]
        · rw [if_neg fun q => h3 (Th.rank_inj.go ts ts' (by simpa using q))]
          simp only [ltD]
          exact lts_rank (n - 1) ts ts' h2 h3 ha3 hb3
      · rw [if_neg (by simp; omega), if_pos h2]
        simp only [ltD]
        congr 1
        unfold lt0
        rw [decide_eq_decide]
        split <;> omega
    · rw [if_neg (by simp [h1]), if_pos h1]
      simp only [ltD]
      congr 1
      unfold lt0
      rw [decide_eq_decide]
      by_cases h4 : w.cps.toList < w'.cps.toList
      · simp [h4]
      · simp [h4]
theorem lts_rank : ∀ (n : Nat) (as bs : List Th), as.length = bs.length → as ≠ bs → (∀ t ∈ as, okT n t) → (∀ t ∈ bs, okT n t) → ltDs (as.map Th.rank) (bs.map Th.rank) = some (lt0 (Th.cmps as bs))
  | n, [], [], _, h, _, _ => absurd rfl h
  | n, [], _ :: _, h, _, _, _ => by simp at h
  | n, _ :: _, [], h, _, _, _ => by simp at h
  | n, a :: as, b :: bs, h, hne, h1, h2 => by
    have ha := h1 a List.mem_cons_self
    have hb := h2 b List.mem_cons_self
    simp only [List.map_cons, Th.cmps]
    rw [ltDs_cons (rank_plain n a ha) (rank_plain n b hb)]
    by_cases e : a = b
    · rw [if_pos (by rw [e]), if_neg (by simp [(cmp_zero a b).mpr e])]
      exact lts_rank n as bs (by simpa using h) (fun q => hne (by rw [e, q])) (fun t ht => h1 t (List.mem_cons_of_mem _ ht)) fun t ht => h2 t (List.mem_cons_of_mem _ ht)
    · rw [if_neg fun q => e (Th.rank_inj a b q), if_pos fun q => e ((cmp_zero a b).mp q)]
      exact lt_rank n a b ha hb
end

def S_law_cell_at : DSp := fun ds S R => ∃ (ns : List Int) (k : Int), ds = [scriptD ns, .int k] ∧ 0 ≤ k ∧ ∀ i, R (.int i) S
theorem sem_law_cell_at : ∀ ds S R, S_law_cell_at ds S R → ds.length = 2 ∧ w_law_cell_at (endsD R) (startD 2 ds) S := by
  rintro ds S R ⟨ns, k, rfl, hk, h⟩
  refine ⟨rfl, ?_⟩
  simp [w_law_cell_at, startD, scriptD, atI_nn hk]
  by_cases hl : k < ns.length
  · refine .inr ⟨hl, ?_⟩
    have h2 : k.toNat < ns.length := by omega
    exact ⟨_, ⟨_, List.getElem?_eq_getElem h2, rfl⟩, h _⟩
  · exact .inl ⟨by omega, h 0⟩

def S_law_pick : DSp := fun ds S R => ∃ (l : Nat) (m : Int), ds = [.loc l, .int m] ∧ 0 < m ∧ m.natAbs < 2 ^ 200 ∧ LAt l S ∧ ∀ d S', 0 ≤ d → d < m → Gr l S S' → R (.int d) S'
theorem sem_law_pick : ∀ ds S R, S_law_pick ds S R → ds.length = 2 ∧ w_law_pick (endsD R) (startD 3 ds) S := by
  rintro ds S R ⟨l, m, rfl, hm, hmb, ⟨a, b, hl, hab⟩, h⟩
  obtain ⟨h0, h1, h2⟩ := id hab
  refine ⟨rfl, ?_⟩
  have hg : ∀ o, (S.set l o)[l]? = some o := fun o => get_set hl
  have gr : ∀ a' b', Lf a' b' → Gr l S (S.set l (.lst [.int a', .int b'])) := fun a' b' q => ⟨LAt.set ⟨a, b, hl, hab⟩ q, LeX.set⟩
  simp [w_law_pick, startD, dIx_loc hl, dSet_loc hl, dIx_loc (hg _)]
  by_cases ha : 0 < a
  · refine .inr ⟨ha, by omega, cdiv_of 200 hm hmb (by decide) (by decide), ?_⟩
    have q := fmod_bounds a hm
    exact h _ _ q.1 q.2 (gr _ _ ⟨Int.ediv_nonneg h0 (by omega), h1, h2⟩)
  · have q := fmod_bounds (b * 48271 + 12345) (b := 2147483647) (by decide)
    refine .inl ⟨by omega, ?_, ?_, by omega, ?_⟩
    · exact cmul_of 31 31 (by omega) (by decide) (by decide) (by decide) (by decide)
    · exact cmul_of 31 31 (by omega) (by omega) (by decide) (by decide) (by decide)
    · have q2 := fmod_bounds (((b * 48271 + 12345).fmod 2147483647 * (b * 48271 + 12345).fmod 2147483647).fmod 1999999973) hm
      exact h _ _ q2.1 q2.2 (gr _ _ ⟨h0, q.1, q.2⟩)

def S_law_left : DSp := fun ds S R => ∃ (ns : List Int) (k : Int), ds = [scriptD ns, .int k] ∧ 0 ≤ k ∧ k < 1000000 ∧ ∀ a b, Lf a b → R (.loc S.length) (S ++ [.lst [.int a, .int b]])
theorem sem_law_left : ∀ ds S R, S_law_left ds S R → ds.length = 2 ∧ w_law_left S_law_cell_at (endsD R) (startD 4 ds) S := by
  rintro ds S R ⟨ns, k, rfl, hk, hk2, h⟩
  refine ⟨rfl, ?_⟩
  simp [w_law_left, startD]
  refine ⟨ns, k, rfl, hk, fun i => ?_⟩
  have q := fmod_bounds i (b := 2147483629) (by decide)
  have hkk : 0 ≤ 7919 * k * k ∧ 7919 * k * k ≤ 7919000000000000 := by
    have h1 : 7919 * k * k ≤ 7919 * 1000000 * k := Int.mul_le_mul_of_nonneg_right (by omega) hk
    have h2 : 0 ≤ 7919 * k * k := Int.mul_nonneg (by omega) hk
    omega
  simp
  refine ⟨cmul_of 31 31 (by decide) (by omega) (by decide) (by decide) (by decide), cmul_of 64 31 (by omega) (by omega) (by decide) (by decide) (by decide), cmul_of 80 31 (by omega) (by decide) (by decide) (by decide) (by decide), ?_⟩
  have q2 := fmod_bounds ((i.fmod 2147483629 + 7919 * k * k + 11) * 48271) (b := 2147483647) (by decide)
  refine ⟨ns, 0, rfl, by decide, fun j => ?_⟩
  have hs : 2 ≤ sizeLine := by decide
  have hp : CPow 10 30 := by unfold CPow; decide
  have q3 := fmod_bounds i (b := 1000000000000000000000000000000) (by decide)
  simp
  by_cases hj : j.fmod 2 = 0
  · exact .inr ⟨hj, hp, hs, h _ _ ⟨by decide, q2.1, q2.2⟩⟩
  · exact .inl ⟨hj, hp, hs, h _ _ ⟨q3.1, q2.1, q2.2⟩⟩

/-! the order of things, once more -/
theorem rank_pure {n : Nat} {t : Th} (h : okT n t) : pureD t.rank = true := plain_pure _ _ (rank_plain n t h)
theorem cmp_T {n : Nat} {a b : Th} (ha : okT n a) (hb : okT n b) : Th.cmp a b < 0 ↔ ltT a.rank b.rank = true := by
  have := ltD_T _ _ _ (rank_pure ha) (rank_pure hb) (lt_rank n a b ha hb)
  rw [← this]
  simp [lt0]
theorem cmp_asym {n : Nat} {a b : Th} (ha : okT n a) (hb : okT n b) (h : Th.cmp a b < 0) : ¬ Th.cmp b a < 0 := by
  rw [cmp_T hb ha, ltT_asym (rank_pure ha) (rank_pure hb) ((cmp_T ha hb).mp h)]
  simp
theorem cmp_trans {n : Nat} {a b c : Th} (ha : okT n a) (hb : okT n b) (hc : okT n c) (h : Th.cmp a b < 0) (g : Th.cmp b c < 0) : Th.cmp a c < 0 := by
  rw [cmp_T ha hc, ltT_iff]
  exact cmpT_trans _ _ _ (rank_pure ha) (rank_pure hb) (rank_pure hc) (ltT_iff.mp ((cmp_T ha hb).mp h)) (ltT_iff.mp ((cmp_T hb hc).mp g))
theorem cmp_tot {n : Nat} {a b : Th} (ha : okT n a) (hb : okT n b) (h : ¬ Th.cmp a b < 0) (g : ¬ Th.cmp b a < 0) : a = b := by
  rw [cmp_T ha hb, Bool.not_eq_true] at h
  rw [cmp_T hb ha, Bool.not_eq_true] at g
  exact Th.rank_inj a b (ltT_tri (rank_pure ha) (rank_pure hb) h g)
theorem cmp_self (a : Th) : ¬ Th.cmp a a < 0 := by rw [(cmp_zero a a).mpr rfl]; omega
/-- sorted, each once -/
def StT (us : List Th) : Prop := us.Pairwise fun a b => Th.cmp a b < 0
theorem stT_uniq {n : Nat} : ∀ {us vs : List Th}, (∀ t ∈ us, okT n t) → (∀ t ∈ vs, okT n t) → StT us → StT vs → (∀ t, t ∈ us ↔ t ∈ vs) → us = vs
  | [], [], _, _, _, _, _ => rfl
  | [], v :: vs, _, _, _, _, h => by have := (h v).mpr List.mem_cons_self; cases this
  | u :: us, [], _, _, _, _, h => by have := (h u).mp List.mem_cons_self; cases this
  | u :: us, v :: vs, ou, ov, su, sv, h => by
    obtain ⟨su1, su2⟩ := List.pairwise_cons.mp su
    obtain ⟨sv1, sv2⟩ := List.pairwise_cons.mp sv
    have e : u = v := by
      rcases List.mem_cons.mp ((h u).mp List.mem_cons_self) with e | h1
      · exact e
      · rcases List.mem_cons.mp ((h v).mpr List.mem_cons_self) with e | h2
        · exact e.symm
        · exact absurd (sv1 u h1) (cmp_asym (ou u List.mem_cons_self) (ov v List.mem_cons_self) (su1 v h2))
    subst e
    rw [stT_uniq (us := us) (vs := vs) (fun t ht => ou t (List.mem_cons_of_mem _ ht)) (fun t ht => ov t (List.mem_cons_of_mem _ ht)) su2 sv2 fun t => ⟨fun ht => ?_, fun ht => ?_⟩]
    · rcases List.mem_cons.mp ((h t).mp (List.mem_cons_of_mem _ ht)) with rfl | h1
      · exact absurd (su1 t ht) (cmp_self t)
      · exact h1
    · rcases List.mem_cons.mp ((h t).mpr (List.mem_cons_of_mem _ ht)) with rfl | h1
      · exact absurd (sv1 t ht) (cmp_self t)
      · exact h1
/-- a list of things -/
def TsAt (l n : Nat) (ts : List Th) (S : Sto) : Prop := S[l]? = some (.lst (ts.map Th.d)) ∧ (∀ t ∈ ts, okT n t) ∧ ts.length ≤ 1000
theorem TsAt.le {l n : Nat} {ts : List Th} {S S' : Sto} (h : TsAt l n ts S) (y : Le S S') : TsAt l n ts S' := ⟨y _ _ h.1, h.2⟩
theorem map_d_inj {us vs : List Th} (h : us.map Th.d = vs.map Th.d) : us = vs := Th.d_inj.go us vs h
theorem ts_plain {n : Nat} {ts : List Th} (h : ∀ t ∈ ts, okT n t) (hn : n ≤ 90) : plainsD 100 (ts.map Th.d) = true := plains_of fun d hd => by
  obtain ⟨t, ht, rfl⟩ := List.mem_map.mp hd
  exact plain_mono _ (by omega) (okT_plain n t (h t ht))
/-- each once, in the order in which they first stand -/
noncomputable def onceT (us : List Th) (t : Th) : List Th := if t ∈ us then us else us ++ [t]
theorem onceT_mem {us : List Th} {t x : Th} : x ∈ onceT us t ↔ x ∈ us ∨ x = t := by
  unfold onceT
  split
  · rename_i h
    exact ⟨.inl, fun q => q.elim id fun e => e ▸ h⟩
  · simp
theorem onceT_nodup {us : List Th} {t : Th} (h : us.Nodup) : (onceT us t).Nodup := by
  unfold onceT
  split
  · exact h
  · rename_i hn
    rw [List.nodup_append]
    exact ⟨h, by simp, fun a ha b hb e => hn (by rw [List.mem_singleton.mp hb] at e; exact e ▸ ha)⟩
def kT (t : Th) : D × D := (t.d, .bl true)
theorem kT_plain {n : Nat} {us : List Th} (h : ∀ t ∈ us, okT n t) (hn : n ≤ 7) : plainK (us.map kT) := fun p hp => by
  obtain ⟨t, ht, rfl⟩ := List.mem_map.mp hp
  exact plain_mono _ (by omega) (okT_plain n t (h t ht))
theorem getP_kT : ∀ (us : List Th) (t : Th), (getP (us.map kT) t.d).isSome = decide (t ∈ us)
  | [], t => by simp [getP]
  | u :: us, t => by
    have ih := getP_kT us t
    unfold getP at ih ⊢
    rw [List.map_cons, List.find?_cons]
    by_cases e : u = t
    · subst e
      simp [kT]
    · have e2 : ¬ (kT u).1 = t.d := fun q => e (Th.d_inj u t q)
      have e3 : ¬ t = u := fun q => e q.symm
      simp only [e2, decide_false, List.mem_cons, e3, false_or]
      exact ih
theorem putP_kT (us : List Th) (t : Th) : putP (us.map kT) t.d (.bl true) = (onceT us t).map kT := by
  unfold putP onceT
  rw [getP_kT]
  by_cases h : t ∈ us
  · simp only [h, decide_true, if_true, List.map_map]
    apply List.map_congr_left
    intro u _
    show (if (kT u).1 = t.d then ((kT u).1, D.bl true) else kT u) = kT u
    by_cases q : (kT u).1 = t.d
    · rw [if_pos q]
      rfl
    · rw [if_neg q]
  · simp [h, kT]

def S_rank : Nat → DSp
  | 0 => fun _ _ _ => False
  | n + 1 => fun ds S R => ∃ t, ds = [t.d] ∧ okT n t ∧ Pure t.rank S R
theorem sem_rank : ∀ n ds S R, S_rank (n + 1) ds S R → ds.length = 1 ∧ w_rank (S_rank n) (endsD R) (startD 2 ds) S := by
  rintro n ds S R ⟨t, rfl, ht, h⟩
  refine ⟨rfl, ?_⟩
  have hsl : sizeLine = 16777216 := sizeLine_eq
  have hz : 2 ≤ sizeLine := by omega
  have hz4 : 4 ≤ sizeLine := by omega
  cases t with
  | num i => simpa [w_rank, startD, Th.d, Th.rank, hz] using h.here
  | made w ts =>
    obtain ⟨h1, h2, h3⟩ := okT_made ht
    simp [w_rank, startD, Th.d, hz4]
    refine lc_over Th.d Th.rank (Le S) (Le.refl S) (fun _ _ => trivial) (by omega) (fun a S' N ha hS hN => ?_) fun S' hS => ?_
    · simp [wipeD]
      match n, ht with
      | 0, ht =>
        obtain ⟨_, e⟩ := ht
        subst e
        cases ha
      | n + 1, ht => exact ⟨a, rfl, h3 a ha, fun S2 y => hN S2 (hS.trans y)⟩
    · refine ⟨_, seqD_loc get_new, ?_⟩
      have := h _ (hS.trans (Le.app S' [.lst (ts.map Th.rank)]))
      rw [Th.rank] at this
      exact this

theorem srt_ranks {n : Nat} {us : List Th} (h : ∀ t ∈ us, okT n t) (hn : n ≤ 40) : Srt (us.map Th.rank) := by
  refine ⟨.inr (.inr (.inl fun d hd => ?_)), fun d hd => ?_, fun d hd c hc => ?_⟩
  · obtain ⟨t, _, rfl⟩ := List.mem_map.mp hd
    cases t with
    | num i => exact ⟨_, _, by rw [Th.rank]⟩
    | made w ts => exact ⟨_, _, by rw [Th.rank]⟩
  · obtain ⟨t, ht, rfl⟩ := List.mem_map.mp hd
    exact plain_mono _ (by omega) (rank_plain n t (h t ht))
  · obtain ⟨t, ht, rfl⟩ := List.mem_map.mp hd
    obtain ⟨u, hu, rfl⟩ := List.mem_map.mp hc
    exact ⟨_, lt_rank n t u (h t ht) (h u hu)⟩
theorem zip_maps {α β γ : Type} {f : α → β} {g : α → γ} : ∀ as : List α, (as.map f).zip (as.map g) = as.map fun a => (f a, g a)
  | [] => rfl
  | a :: as => by rw [List.map_cons, List.map_cons, List.zip_cons_cons, zip_maps as, List.map_cons]
/-- things sorted by their ranks -/
theorem sort_ranks {n : Nat} {us : List Th} {S : Sto} {R : DQ} (h : ∀ t ∈ us, okT n t) (hn : n ≤ 40) (nd : us.Nodup) (q : ∀ vs : List Th, vs.Perm us → StT vs → R (.loc S.length) (S ++ [.lst (vs.map Th.d)])) : keyFin (us.map Th.d) R (us.map Th.rank) S := by
  refine ⟨srt_ranks h hn, by simp, fun ps hp hs => ?_⟩
  rw [zip_maps] at hp
  obtain ⟨vs, h1, rfl⟩ := perm_lift hp rfl
  have e : (vs.map fun t => (t.rank, t.d)).map (·.2) = vs.map Th.d := by rw [List.map_map]; rfl
  rw [e]
  refine q vs h1 ?_
  have ov : ∀ t ∈ vs, okT n t := fun t ht => h t (h1.mem_iff.mp ht)
  have nv : vs.Nodup := h1.nodup_iff.mpr nd
  have hs' := List.pairwise_map.mp hs
  refine List.Pairwise.imp_of_mem (fun {a b} ha hb hab => ?_) (hs'.and nv)
  rcases Classical.em (Th.cmp a b < 0) with z | z
  · exact z
  · refine absurd (cmp_tot (ov a ha) (ov b hb) z fun z2 => ?_) hab.2
    have := hab.1
    rw [(cmp_T (ov b hb) (ov a ha)).mp z2] at this
    cases this
def S_ordered : DSp := fun ds S R => ∃ l ts, ds = [.loc l] ∧ TsAt l 7 ts S ∧ ∀ us m S', StT us → (∀ t, t ∈ us ↔ t ∈ ts) → TsAt m 7 us S' → S.length ≤ m → Le S S' → R (.loc m) S'
theorem sem_ordered : ∀ ds S R, S_ordered ds S R → ds.length = 1 ∧ w_ordered (S_rank 8) (endsD R) (startD 3 ds) S := by
  rintro ds S R ⟨l, ts, rfl, ⟨hl, ho, hn⟩, h⟩
  refine ⟨rfl, ?_⟩
  have hsl : sizeLine = 16777216 := sizeLine_eq
  have hll := lt_of_get hl
  simp [w_ordered, startD]
  refine ⟨_, _, itemsD_loc (get_app hl), ?_⟩
  refine forGo_run (fun items τ S' => ∃ v rest us ep, items = rest.map Th.d ∧ τ = [some (.loc l), some (.loc S.length), v] ∧ S'[S.length]? = some (.dct ep (us.map kT)) ∧ us.Nodup ∧ us.length + rest.length ≤ ts.length ∧ (∀ t ∈ us, okT 7 t) ∧ (∀ t ∈ rest, okT 7 t) ∧ (∀ t, (t ∈ us ∨ t ∈ rest) ↔ t ∈ ts) ∧ Le S S')
    ⟨_, ts, [], 0, rfl, rfl, get_new, List.nodup_nil, by simp, by simp, ho, by simp, Le.app _ _⟩ ?_ ?_
  · rintro τ S' ⟨v, rest, us, ep, e, rfl, q1, q2, q3, q4, q5, q6, q7⟩
    refine ⟨q7 _ _ hl, ?_⟩
    have e' : rest = [] := by simpa using e.symm
    subst e'
    simp only [List.not_mem_nil, or_false] at q6
    simp
    refine ⟨_, srcD_dct q1, ?_⟩
    have ek : (us.map kT).map (·.1) = us.map Th.d := by rw [List.map_map]; rfl
    rw [ek]
    have run : keyGo (S_rank 8) (keyFin (us.map Th.d) R) (us.map Th.d) [] S' := by
      have fin : ∀ S2, Le S' S2 → keyFin (us.map Th.d) R (us.map Th.rank) S2 := fun S2 y => sort_ranks q4 (by decide) q2 fun vs h1 h2 =>
        h vs _ _ h2 (fun t => by rw [h1.mem_iff]; exact q6 t) ⟨get_new, fun t ht => q4 t (h1.mem_iff.mp ht), by rw [h1.length_eq]; simp at q3; omega⟩ ((q7.trans y).len) ((q7.trans y).trans (Le.app _ _))
      have go : ∀ (ws done : List Th) (S2 : Sto), Le S' S2 → done ++ ws = us → keyGo (S_rank 8) (keyFin (us.map Th.d) R) (ws.map Th.d) (done.map Th.rank) S2 := by
        intro ws
        induction ws with
        | nil =>
          intro done S2 y e
          rw [List.append_nil] at e
          subst e
          exact fin S2 y
        | cons w ws ih =>
          intro done S2 y e
          refine ⟨w, rfl, q4 w (by rw [← e]; simp), fun S3 y3 => ?_⟩
          have := ih (done ++ [w]) S3 (y.trans y3) (by rw [← e]; simp)
          simpa using this
      exact go us [] S' (Le.refl _) rfl
    exact run
  · rintro d r τ S' N ⟨v, rest, us, ep, e, rfl, q1, q2, q3, q4, q5, q6, q7⟩ hN
    refine ⟨q7 _ _ hl, ?_⟩
    cases rest with
    | nil => cases e
    | cons t rest =>
    simp only [List.map_cons, List.cons.injEq] at e
    obtain ⟨rfl, rfl⟩ := e
    simp only [List.length_cons] at q3
    have ht := q5 t List.mem_cons_self
    simp
    rw [dSet_P q1 (kT_plain q4 (by decide)) (okT_plain 7 t ht), putP_kT]
    have hlen : (onceT us t).length ≤ us.length + 1 := by unfold onceT; split <;> simp
    refine ⟨by simp; omega, hN _ _ ⟨_, rest, onceT us t, _, rfl, rfl, get_set q1, onceT_nodup q2, by omega, fun x hx => ?_, fun x hx => q5 x (List.mem_cons_of_mem _ hx), fun x => ?_, fun j o e => ?_⟩⟩
    · rcases onceT_mem.mp hx with hx | rfl
      · exact q4 x hx
      · exact ht
    · rw [← q6 x, onceT_mem, List.mem_cons, or_assoc]
    · have := lt_of_get e
      rw [List.getElem?_set_ne (by omega)]
      exact q7 j o e

/-! rows of things -/
def dR (r : List Th) : D := .tup (r.map Th.d)
def okR (r : List Th) : Prop := r.length ≤ 8 ∧ ∀ t ∈ r, okT 3 t
noncomputable def mkR (r : List Th) : Th := .made "row" r
theorem dR_inj {a b : List Th} (h : dR a = dR b) : a = b := map_d_inj (D.tup.inj h)
theorem mkR_inj {a b : List Th} (h : mkR a = mkR b) : a = b := (Th.made.inj h).2
theorem row_len : Str.length "row" ≤ 60 := by decide +kernel
theorem okR_mk {r : List Th} (h : okR r) : okT 4 (mkR r) := ⟨row_len, by have := h.1; omega, h.2⟩
theorem dR_plain {r : List Th} (h : okR r) : plainD 5 (dR r) = true := by
  refine plainD_tup.mpr ⟨by have := h.1; simp; omega, plains_of fun d hd => ?_⟩
  obtain ⟨t, ht, rfl⟩ := List.mem_map.mp hd
  exact okT_plain 3 t (h.2 t ht)
def RsAt (l : Nat) (rs : List (List Th)) (S : Sto) : Prop := S[l]? = some (.lst (rs.map dR)) ∧ (∀ r ∈ rs, okR r) ∧ rs.length ≤ 900
theorem RsAt.le {l : Nat} {rs : List (List Th)} {S S' : Sto} (h : RsAt l rs S) (y : Le S S') : RsAt l rs S' := ⟨y _ _ h.1, h.2⟩
theorem nodup_len {α : Type} [DecidableEq α] : ∀ (l D : List α), l.Nodup → (∀ x ∈ l, x ∈ D) → l.length ≤ D.length
  | [], _, _, _ => Nat.zero_le _
  | x :: l, D, hn, h => by
    rw [List.nodup_cons] at hn
    have hx := h x List.mem_cons_self
    have := nodup_len l (D.erase x) hn.2 fun y hy => by
      have ne : y ≠ x := fun e => hn.1 (e ▸ hy)
      exact (List.mem_erase_of_ne ne).mpr (h y (List.mem_cons_of_mem _ hy))
    rw [List.length_erase_of_mem hx] at this
    have hp := List.length_pos_of_mem hx
    simp only [List.length_cons]
    omega
/-- the rows rs, in their order, each once -/
def SR (vs rs : List (List Th)) : Prop := StT (vs.map mkR) ∧ ∀ r, r ∈ vs ↔ r ∈ rs
theorem SR_uniq {vs us rs : List (List Th)} (o : ∀ r ∈ rs, okR r) (h : SR vs rs) (g : SR us rs) : vs = us := by
  have e := stT_uniq (n := 4) (us := vs.map mkR) (vs := us.map mkR) (fun t ht => by
    obtain ⟨r, hr, rfl⟩ := List.mem_map.mp ht
    exact okR_mk (o r ((h.2 r).mp hr))) (fun t ht => by
    obtain ⟨r, hr, rfl⟩ := List.mem_map.mp ht
    exact okR_mk (o r ((g.2 r).mp hr))) h.1 g.1 fun t => by
      simp only [List.mem_map]
      exact ⟨fun ⟨r, hr, e⟩ => ⟨r, (g.2 r).mpr ((h.2 r).mp hr), e⟩, fun ⟨r, hr, e⟩ => ⟨r, (h.2 r).mpr ((g.2 r).mp hr), e⟩⟩
  exact (List.map_inj_right fun x y e => mkR_inj e).mp e
theorem rows_lift {rs : List (List Th)} : ∀ {us : List Th}, (∀ u ∈ us, ∃ r ∈ rs, mkR r = u) → ∃ vs : List (List Th), us = vs.map mkR
  | [], _ => ⟨[], rfl⟩
  | u :: us, h => by
    obtain ⟨r, _, rfl⟩ := h u List.mem_cons_self
    obtain ⟨vs, rfl⟩ := rows_lift (us := us) fun z hz => h z (List.mem_cons_of_mem _ hz)
    exact ⟨r :: vs, rfl⟩
theorem mkR_d (r : List Th) : (mkR r).d = .tup (.str "row" :: r.map Th.d) := by simp [mkR, Th.d]
def S_sorted_rows : DSp := fun ds S R => ∃ l rs, ds = [.loc l] ∧ RsAt l rs S ∧ ∀ vs m S', SR vs rs → RsAt m vs S' → S.length ≤ m → Le S S' → R (.loc m) S'
theorem sem_sorted_rows : ∀ ds S R, S_sorted_rows ds S R → ds.length = 1 ∧ w_sorted_rows S_ordered (endsD R) (startD 3 ds) S := by
  rintro ds S R ⟨l, rs, rfl, ⟨hl, ho, hn⟩, h⟩
  refine ⟨rfl, ?_⟩
  have hsl : sizeLine = 16777216 := sizeLine_eq
  simp [w_sorted_rows, startD]
  refine ⟨_, _, itemsD_loc hl, ?_⟩
  refine lc_over dR (fun r => (mkR r).d) (Le S) (Le.refl _) (fun _ x => x _ _ hl) (by omega) (fun r S' N hr hS hN => ?_) fun S1 hS1 => ?_
  · have := (ho r hr).1
    simp [wipeD, dR]
    refine ⟨by omega, by omega, ?_⟩
    have := hN S' hS
    rwa [mkR_d] at this
  · have em : rs.map (fun r => (mkR r).d) = (rs.map mkR).map Th.d := by rw [List.map_map]; rfl
    rw [em]
    refine ⟨S1.length, rs.map mkR, rfl, ⟨get_new, fun t ht => ?_, by simp; omega⟩, fun us m S2 hst mem hts hm y2 => ?_⟩
    · obtain ⟨r, hr, rfl⟩ := List.mem_map.mp ht
      exact okT_le _ (okR_mk (ho r hr)) (by decide)
    · obtain ⟨vs, rfl⟩ := rows_lift (rs := rs) (us := us) fun u hu => by
        obtain ⟨r, hr, e⟩ := List.mem_map.mp ((mem u).mp hu)
        exact ⟨r, hr, e⟩
      have hv : ∀ r, r ∈ vs ↔ r ∈ rs := fun r => by
        have := mem (mkR r)
        constructor
        · intro hr
          obtain ⟨q, hq, e⟩ := List.mem_map.mp (this.mp (List.mem_map_of_mem hr))
          exact mkR_inj e ▸ hq
        · intro hr
          obtain ⟨q, hq, e⟩ := List.mem_map.mp (this.mpr (List.mem_map_of_mem hr))
          exact mkR_inj e ▸ hq
      have hlen : vs.length ≤ 900 := by
        have hnd : vs.Nodup := by
          rw [List.nodup_iff_pairwise_ne]
          refine (List.pairwise_map.mp hst).imp fun {a b} h e => ?_
          subst e
          exact cmp_self _ h
        have : vs.length ≤ rs.length := nodup_len vs rs hnd fun x hx => (hv x).mp hx
        omega
      refine ⟨_, _, itemsD_loc hts.1, ?_⟩
      rw [List.map_map]
      refine lc_over (Th.d ∘ mkR) dR (Le S2) (Le.refl _) (fun _ x => x _ _ ?_) (by omega) (fun r S' N hr hS hN => ?_) fun S3 hS3 => ?_
      · have := hts.1
        rwa [List.map_map] at this
      · simp [wipeD, mkR_d]
        exact hN S' hS
      · refine h vs _ _ ⟨hst, hv⟩ ⟨get_new, fun r hr => ho r ((hv r).mp hr), hlen⟩ ?_ ?_
        · have := (hS1.trans (Le.app _ [O.lst ((rs.map mkR).map Th.d)])).len
          have := y2.len
          have := hS3.len
          omega
        · exact ((hS1.trans (Le.app _ _)).trans y2).trans (hS3.trans (Le.app _ _))

def S_law_rank : Nat → DSp
  | 0 => fun _ _ _ => False
  | n + 1 => fun ds S R => ∃ t, ds = [t.d] ∧ okT n t ∧ Pure t.rank S R
theorem sem_law_rank : ∀ n ds S R, S_law_rank (n + 1) ds S R → ds.length = 1 ∧ w_law_rank (S_law_rank n) (endsD R) (startD 2 ds) S := by
  rintro n ds S R ⟨t, rfl, ht, h⟩
  refine ⟨rfl, ?_⟩
  have hsl : sizeLine = 16777216 := sizeLine_eq
  have hz : 2 ≤ sizeLine := by omega
  have hz4 : 4 ≤ sizeLine := by omega
  cases t with
  | num i => simpa [w_law_rank, startD, Th.d, Th.rank, hz] using h.here
  | made w ts =>
    obtain ⟨h1, h2, h3⟩ := okT_made ht
    simp [w_law_rank, startD, Th.d, hz4]
    refine lc_over Th.d Th.rank (Le S) (Le.refl S) (fun _ _ => trivial) (by omega) (fun a S' N ha hS hN => ?_) fun S' hS => ?_
    · simp [wipeD]
      match n, ht with
      | 0, ht =>
        obtain ⟨_, e⟩ := ht
        subst e
        cases ha
      | n + 1, ht => exact ⟨a, rfl, h3 a ha, fun S2 y => hN S2 (hS.trans y)⟩
    · refine ⟨_, seqD_loc get_new, ?_⟩
      have := h _ (hS.trans (Le.app S' [.lst (ts.map Th.rank)]))
      rw [Th.rank] at this
      exact this
def S_law_row_rank : DSp := fun ds S R => ∃ r, ds = [dR r] ∧ okR r ∧ ∀ m S', S'[m]? = some (.lst (r.map Th.rank)) → S.length ≤ m → Le S S' → R (.loc m) S'
theorem sem_law_row_rank : ∀ ds S R, S_law_row_rank ds S R → ds.length = 1 ∧ w_law_row_rank (S_law_rank 8) (endsD R) (startD 2 ds) S := by
  rintro ds S R ⟨r, rfl, ⟨ho, hr⟩, h⟩
  refine ⟨rfl, ?_⟩
  have hsl : sizeLine = 16777216 := sizeLine_eq
  simp [w_law_row_rank, startD, dR]
  refine lc_over Th.d Th.rank (Le S) (Le.refl S) (fun _ _ => trivial) (by omega) (fun a S' N ha hS hN => ?_) fun S' hS => ?_
  · simp [wipeD]
    exact ⟨a, rfl, okT_le _ (hr a ha) (by decide), fun S2 y => hN S2 (hS.trans y)⟩
  · exact h _ _ get_new hS.len (hS.trans (Le.app _ _))
theorem ranks_pure {r : List Th} (h : okR r) : pureD (.tup (r.map Th.rank)) = true := by
  rw [pureD]
  refine plains_pure 50 _ (plains_of fun d hd => ?_)
  obtain ⟨t, ht, rfl⟩ := List.mem_map.mp hd
  exact plain_mono _ (by omega) (rank_plain 3 t (h.2 t ht))
theorem ranks_cmp {a b : List Th} (ha : okR a) (hb : okR b) (hl : a.length = b.length) (hne : a ≠ b) : ltT (.tup (a.map Th.rank)) (.tup (b.map Th.rank)) = true ↔ Th.cmp (mkR a) (mkR b) < 0 := by
  have h1 := lts_rank 3 a b hl hne ha.2 hb.2
  have h2 : ltD (.tup (a.map Th.rank)) (.tup (b.map Th.rank)) = some (lt0 (Th.cmps a b)) := by simpa [ltD] using h1
  have := ltD_T _ _ _ (ranks_pure ha) (ranks_pure hb) h2
  rw [← this]
  simp [lt0, mkR, Th.cmp, hl]
theorem ranks_inj {a b : List Th} (h : D.tup (a.map Th.rank) = .tup (b.map Th.rank)) : a = b := Th.rank_inj.go a b (D.tup.inj h)
theorem srtL_rows {rs : List (List Th)} (h : ∀ r ∈ rs, okR r) : SrtL (rs.map fun r => r.map Th.rank) := by
  refine ⟨fun ks hk d hd => ?_, fun ks hk cs hc d hd c hcc => ?_⟩
  · obtain ⟨r, hr, rfl⟩ := List.mem_map.mp hk
    obtain ⟨t, ht, rfl⟩ := List.mem_map.mp hd
    exact plain_mono _ (by omega) (rank_plain 3 t ((h r hr).2 t ht))
  · obtain ⟨r, hr, rfl⟩ := List.mem_map.mp hk
    obtain ⟨t, ht, rfl⟩ := List.mem_map.mp hd
    obtain ⟨q, hq, rfl⟩ := List.mem_map.mp hc
    obtain ⟨u, hu, rfl⟩ := List.mem_map.mp hcc
    exact ⟨_, lt_rank 3 t u ((h r hr).2 t ht) ((h q hq).2 u hu)⟩
theorem keyGoL_over {α : Type} {gd : α → D} {sp : DSp} {fin : List D → Sto → Prop} (f : α → List D) (I : Sto → Prop) : ∀ (as : List α) {acc : List D} {kss : List (List D)} {S : Sto}, I S → KLs S acc kss →
    (∀ a ∈ as, ∀ (S' : Sto) (N : DQ), I S' → (∀ l S'', I S'' → S''[l]? = some (O.lst (f a)) → (∀ (l' : Nat) (ds : List D), S'[l']? = some (O.lst ds) → S''[l']? = some (O.lst ds)) → N (.loc l) S'') → sp [gd a] S' N) →
    (∀ S' ks, I S' → KLs S' ks (kss ++ as.map f) → fin ks S') → keyGo sp fin (as.map gd) acc S
  | [], acc, kss, S, hI, ha, hs, h0 => h0 S acc hI (by simpa using ha)
  | a :: as, acc, kss, S, hI, ha, hs, h0 => by
    rw [List.map_cons]
    unfold keyGo
    exact hs a List.mem_cons_self S _ hI fun l S'' I'' e k => keyGoL_over f I as (kss := kss ++ [f a]) I'' ((ha.keep k).snoc e) (fun c hc => hs c (List.mem_cons_of_mem _ hc)) fun S' ks I' hk => h0 S' ks I' (by simpa using hk)
def S_law_sorted : DSp := fun ds S R => ∃ l rs sz, ds = [.loc l] ∧ RsAt l rs S ∧ rs.Nodup ∧ (∀ r ∈ rs, r.length = sz) ∧ ∀ vs m S', SR vs rs → RsAt m vs S' → S.length ≤ m → Le S S' → R (.loc m) S'
theorem sem_law_sorted : ∀ ds S R, S_law_sorted ds S R → ds.length = 1 ∧ w_law_sorted S_law_row_rank (endsD R) (startD 1 ds) S := by
  rintro ds S R ⟨l, rs, sz, rfl, ⟨hl, ho, hn⟩, nd, hlen, h⟩
  refine ⟨rfl, ?_⟩
  simp [w_law_sorted, startD]
  refine ⟨_, srcD_loc hl, ?_⟩
  refine keyGoL_over (fun r => r.map Th.rank) (Le S) rs (Le.refl _) .nil (fun r hr S' N hS hN => ?_) fun S' ks hS hk => ?_
  · exact ⟨r, rfl, ho r hr, fun m S'' hm hle y => hN m S'' (hS.trans y) hm fun l' ds e => y _ _ e⟩
  · rw [List.nil_append] at hk
    refine ⟨_, hk, by simp, srtL_rows ho, fun ps hp hs => ?_⟩
    rw [List.map_map, zip_maps] at hp
    obtain ⟨vs, h1, rfl⟩ := perm_lift hp rfl
    have e : (vs.map fun r => ((D.tup ∘ fun r : List Th => r.map Th.rank) r, dR r)).map (·.2) = vs.map dR := by rw [List.map_map]; rfl
    rw [e]
    have hm : ∀ r, r ∈ vs ↔ r ∈ rs := fun r => h1.mem_iff
    refine h vs _ _ ⟨?_, hm⟩ ⟨get_new, fun r hr => ho r ((hm r).mp hr), by rw [h1.length_eq]; exact hn⟩ hS.len (hS.trans (Le.app _ _))
    have hs' := List.pairwise_map.mp hs
    refine List.pairwise_map.mpr (List.Pairwise.imp_of_mem (fun {a b} ha hb hab => ?_) (hs'.and (h1.nodup_iff.mpr nd)))
    have oa := ho a ((hm a).mp ha)
    have ob := ho b ((hm b).mp hb)
    have ll : a.length = b.length := by rw [hlen a ((hm a).mp ha), hlen b ((hm b).mp hb)]
    refine (ranks_cmp oa ob ll hab.2).mp ?_
    cases q : ltT (.tup (a.map Th.rank)) (.tup (b.map Th.rank)) with
    | true => rfl
    | false => exact absurd (ranks_inj (ltT_tri (ranks_pure oa) (ranks_pure ob) q hab.1)) hab.2

def natD (n : Nat) : D := .int (n : Int)
def tupN (p : List Nat) : D := .tup (p.map natD)
theorem natD_inj {a b : Nat} (h : natD a = natD b) : a = b := Int.ofNat.inj (D.int.inj h)
theorem tupN_inj {a b : List Nat} (h : tupN a = tupN b) : a = b := List.map_inj_right (fun x y e => natD_inj e) |>.mp (D.tup.inj h)
theorem natD_mem {x : Nat} {l : List Nat} : natD x ∈ l.map natD ↔ x ∈ l := by
  rw [List.mem_map]
  exact ⟨fun ⟨y, h, e⟩ => natD_inj e ▸ h, fun h => ⟨x, h, rfl⟩⟩
theorem nats_plain (n : Nat) (l : List Nat) : plainsD n (l.map natD) = true := plains_of fun d hd => by
  obtain ⟨x, _, rfl⟩ := List.mem_map.mp hd
  cases n <;> rfl
theorem tupN_plain {n : Nat} {p : List Nat} (h : p.length ≤ 100000) : plainD (n + 1) (tupN p) = true := plainD_tup.mpr ⟨by simpa using h, nats_plain _ _⟩
def inB (a b : List Nat) : Bool := decide (a.length < b.length) && a.all fun x => decide (x ∈ b)

/-! a shelf -/
def kR (r : List Th) : D × D := (dR r, .bl true)
theorem kR_plain {rs : List (List Th)} (h : ∀ r ∈ rs, okR r) : plainK (rs.map kR) := fun p hp => by
  obtain ⟨r, hr, rfl⟩ := List.mem_map.mp hp
  exact plain_mono _ (by decide) (dR_plain (h r hr))
theorem getP_kR : ∀ (us : List (List Th)) (t : List Th), (getP (us.map kR) (dR t)).isSome = decide (t ∈ us)
  | [], t => by simp [getP]
  | u :: us, t => by
    have ih := getP_kR us t
    unfold getP at ih ⊢
    rw [List.map_cons, List.find?_cons]
    by_cases e : u = t
    · subst e
      simp [kR]
    · have e2 : ¬ (kR u).1 = dR t := fun q => e (dR_inj q)
      have e3 : ¬ t = u := fun q => e q.symm
      simp only [e2, decide_false, List.mem_cons, e3, false_or]
      exact ih
theorem putP_kR {us : List (List Th)} {t : List Th} (h : t ∉ us) : putP (us.map kR) (dR t) (.bl true) = (us ++ [t]).map kR := by
  unfold putP
  rw [getP_kR]
  simp [h, kR]
theorem putP_kR_in {us : List (List Th)} {t : List Th} (h : t ∈ us) : putP (us.map kR) (dR t) (.bl true) = us.map kR := by
  unfold putP
  rw [getP_kR]
  simp only [h, decide_true, if_true, List.map_map]
  apply List.map_congr_left
  intro u _
  show (if (kR u).1 = dR t then ((kR u).1, D.bl true) else kR u) = kR u
  by_cases q : (kR u).1 = dR t
  · rw [if_pos q]
    rfl
  · rw [if_neg q]
/-- a key: the number of an order, the things in it that stand first -/
abbrev Ky := Nat × List Th
def dK (k : Ky) : D := .tup [.int (k.1 : Nat), .tup (k.2.map Th.d)]
theorem dK_inj {a b : Ky} (h : dK a = dK b) : a = b := by
  obtain ⟨a1, a2⟩ := a
  obtain ⟨b1, b2⟩ := b
  simp only [dK, D.tup.injEq, List.cons.injEq, D.int.injEq, and_true] at h
  obtain ⟨h1, h2⟩ := h
  have h1' : a1 = b1 := by exact_mod_cast h1
  rw [h1', map_d_inj h2]
def okK (k : Ky) : Prop := k.2.length ≤ 8 ∧ ∀ t ∈ k.2, okT 3 t
theorem dK_plain {k : Ky} (h : okK k) : plainD 6 (dK k) = true := by
  refine plainD_tup.mpr ⟨by simp, ?_⟩
  have := dR_plain (r := k.2) h
  simp only [plainsD, plainD, Bool.true_and, Bool.and_true]
  exact this
def keyP (ord : List Nat) (m : Nat) (r : List Th) : List Th := (ord.take m).map fun i => r[i]?.getD (.num 0)
def keysOf (sz : Nat) (ords : List (List Nat)) (r : List Th) : List Ky := ords.zipIdx.flatMap fun p => (List.range (sz + 1)).map fun m => (p.2, keyP p.1 m r)
def OrdOk (sz : Nat) (ords : List (List Nat)) : Prop := sz ≤ 8 ∧ ords.length ≤ 8 ∧ ∀ o ∈ ords, o.Perm (List.range sz)
theorem keyP_ok {sz m : Nat} {ord : List Nat} {r : List Th} (hs : sz ≤ 8) (ho : ord.Perm (List.range sz)) (hr : okR r) (hl : r.length = sz) : (keyP ord m r).length ≤ 8 ∧ ∀ t ∈ keyP ord m r, okT 3 t := by
  have h1 : ord.length = sz := by simpa using ho.length_eq
  unfold keyP
  refine ⟨by simp; omega, fun t ht => ?_⟩
  obtain ⟨i, hi, rfl⟩ := List.mem_map.mp ht
  have h2 : i < sz := List.mem_range.mp (ho.mem_iff.mp (List.mem_of_mem_take hi))
  rw [List.getElem?_eq_getElem (by omega)]
  exact hr.2 _ (List.getElem_mem _)
theorem keysOf_ok {sz : Nat} {ords : List (List Nat)} {r : List Th} (h : OrdOk sz ords) (hr : okR r) (hl : r.length = sz) : ∀ k ∈ keysOf sz ords r, okK k := by
  intro k hk
  unfold keysOf at hk
  obtain ⟨p, hp, hk⟩ := List.mem_flatMap.mp hk
  obtain ⟨m, hm, rfl⟩ := List.mem_map.mp hk
  have := List.mem_zipIdx_iff_getElem?.mp hp
  exact keyP_ok h.1 (h.2.2 _ (List.mem_of_getElem? this)) hr hl
theorem keyP_len {sz m : Nat} {ord : List Nat} {r : List Th} (ho : ord.Perm (List.range sz)) (hm : m ≤ sz) : (keyP ord m r).length = m := by
  have h1 : ord.length = sz := by simpa using ho.length_eq
  unfold keyP
  simp
  omega
theorem flatMap_nodup {α β : Type} {f : α → List β} : ∀ {l : List α}, l.Nodup → (∀ a ∈ l, (f a).Nodup) → (∀ a ∈ l, ∀ b ∈ l, ∀ x, x ∈ f a → x ∈ f b → a = b) → (l.flatMap f).Nodup
  | [], _, _, _ => by simp
  | a :: l, hn, h1, h2 => by
    rw [List.nodup_cons] at hn
    rw [List.flatMap_cons, List.nodup_append]
    refine ⟨h1 a List.mem_cons_self, flatMap_nodup hn.2 (fun b hb => h1 b (List.mem_cons_of_mem _ hb)) fun b hb c hc => h2 b (List.mem_cons_of_mem _ hb) c (List.mem_cons_of_mem _ hc), fun x hx y hy e => ?_⟩
    subst e
    obtain ⟨b, hb, hy⟩ := List.mem_flatMap.mp hy
    have := h2 a List.mem_cons_self b (List.mem_cons_of_mem _ hb) x hx hy
    subst this
    exact hn.1 hb
theorem keysOf_nodup {sz : Nat} {ords : List (List Nat)} {r : List Th} (h : OrdOk sz ords) : (keysOf sz ords r).Nodup := by
  have hp : ∀ p ∈ ords.zipIdx, ords[p.2]? = some p.1 := fun p hp => List.mem_zipIdx_iff_getElem?.mp hp
  unfold keysOf
  refine flatMap_nodup ?_ (fun p hpm => ?_) fun p hpm q hqm x h1 h2 => ?_
  · have : (ords.zipIdx.map (·.2)).Nodup := by
      rw [List.zipIdx_map_snd]
      exact List.nodup_range'
    exact (List.pairwise_map.mp this).imp fun h e => h (by rw [e])
  · refine List.pairwise_map.mpr (List.nodup_range.imp_of_mem fun {a b} ha hb hne e => hne ?_)
    have ho := h.2.2 _ (List.mem_of_getElem? (hp p hpm))
    have e2 := congrArg (fun k : Ky => k.2.length) e
    simp only at e2
    rw [keyP_len ho (by have := List.mem_range.mp ha; omega), keyP_len ho (by have := List.mem_range.mp hb; omega)] at e2
    exact e2
  · obtain ⟨m1, _, rfl⟩ := List.mem_map.mp h1
    obtain ⟨m2, _, e⟩ := List.mem_map.mp h2
    have e3 : q.2 = p.2 := congrArg Prod.fst e
    have h3 := hp p hpm
    have h4 := hp q hqm
    rw [e3, h3] at h4
    have h5 := Option.some.inj h4
    exact Prod.ext h5 e3.symm
theorem keysOf_len {sz : Nat} {ords : List (List Nat)} {r : List Th} (h : OrdOk sz ords) : (keysOf sz ords r).length ≤ 72 := by
  have go : ∀ (l : List (List Nat × Nat)), (l.flatMap fun p => (List.range (sz + 1)).map fun m => ((p.2, keyP p.1 m r) : Ky)).length = l.length * (sz + 1) := by
    intro l
    induction l with
    | nil => simp
    | cons a l ih =>
      rw [List.flatMap_cons, List.length_append, ih]
      simp [Nat.add_mul]
      omega
  unfold keysOf
  rw [go]
  have h1 := h.1
  have h2 := h.2.1
  rw [List.length_zipIdx]
  calc ords.length * (sz + 1) ≤ 8 * (sz + 1) := Nat.mul_le_mul_right _ h2
    _ ≤ 72 := by omega
/-- an entry of the dict of beginnings: the key, where its dict lies, the rows in it -/
abbrev En := Ky × Nat × List (List Th)
def kE (e : En) : D × D := (dK e.1, .loc e.2.1)
structure BgAt (bg : Nat) (ent : List En) (M : Ky → List Th → Prop) (S : Sto) : Prop where
  here : ∃ ep, S[bg]? = some (.dct ep (ent.map kE))
  ins : ∀ e ∈ ent, ∃ ep, S[e.2.1]? = some (.dct ep (e.2.2.map kR))
  keys : (ent.map (·.1)).Nodup
  locs : (bg :: ent.map (·.2.1)).Nodup
  ok : ∀ e ∈ ent, okK e.1 ∧ e.2.2.Nodup ∧ (∀ x ∈ e.2.2, okR x) ∧ e.2.2.length ≤ 900
  rows : ∀ e ∈ ent, ∀ x, x ∈ e.2.2 ↔ M e.1 x
  all : ∀ k x, M k x → ∃ e ∈ ent, e.1 = k
def shF (sz b kd bg : Nat) : List (Str × D) := [("many", .int (sz : Nat)), ("by", .loc b), ("kept", .loc kd), ("beginnings", .loc bg)]
structure ShAt (o b kd bg sz : Nat) (ords : List (List Nat)) (kept : List (List Th)) (ent : List En) (S : Sto) : Prop where
  obj : S[o]? = some (.ins "Shelf" (shF sz b kd bg))
  by_ : S[b]? = some (.lst (ords.map tupN))
  kept_ : ∃ ep, S[kd]? = some (.dct ep (kept.map kR))
  bg_ : BgAt bg ent (fun k x => x ∈ kept ∧ k ∈ keysOf sz ords x) S
  ne : kd ≠ bg ∧ ∀ e ∈ ent, kd ≠ e.2.1
  ordok : OrdOk sz ords
  ok : ∀ r ∈ kept, okR r ∧ r.length = sz
  nd : kept.Nodup
  len : kept.length ≤ 900
theorem rng_nat (n : Nat) : rangeD 0 n = (List.range n).map natD := by
  unfold rangeD natD
  simp
theorem cutD_to {xs : List D} {m : Int} (h : 0 ≤ m) : cutD xs none (some m) = xs.take m.toNat := by
  have h' : ¬ m < 0 := by omega
  simp [cutD, HT.sIx, h']
theorem enumD_map {α : Type} (f : α → D) (P : List α) : enumD (P.map f) = P.zipIdx.map fun p => D.tup [.int (p.2 : Nat), f p.1] := by
  unfold enumD
  rw [List.zipIdx_map, List.map_map]
  rfl
def S_Shelf_keys_of : DSp := fun ds S R => ∃ (o b kd bg sz : Nat) (ords : List (List Nat)) (r : List Th), ds = [.loc o, dR r] ∧ S[o]? = some (.ins "Shelf" (shF sz b kd bg)) ∧ S[b]? = some (.lst (ords.map tupN)) ∧ OrdOk sz ords ∧ okR r ∧ r.length = sz ∧
  ∀ m S', S'[m]? = some (.lst ((keysOf sz ords r).map dK)) → S.length ≤ m → Le S S' → R (.loc m) S'
theorem sem_Shelf_keys_of : ∀ ds S R, S_Shelf_keys_of ds S R → ds.length = 2 ∧ w_Shelf_keys_of (endsD R) (startD 7 ds) S := by
  rintro ds S R ⟨o, b, kd, bg, sz, ords, r, rfl, ho, hb, hok, hr, hl, h⟩
  refine ⟨rfl, ?_⟩
  have hsl : sizeLine = 16777216 := sizeLine_eq
  simp [w_Shelf_keys_of, startD]
  have hF : S.length ≠ o := Nat.ne_of_gt (lt_of_get ho)
  refine ⟨_, get_app ho, _, rfl, .inl ⟨_, _, lstD_loc (get_app hb), ?_⟩⟩
  rw [enumD_map]
  let ks : List Nat × Nat → List Ky := fun p => (List.range (sz + 1)).map fun m => (p.2, keyP p.1 m r)
  refine forGo_run (fun items τ S' => ∃ (done rest : List (List Nat × Nat)) (v3 v4 v5 v6 : Option D), ords.zipIdx = done ++ rest ∧ items = rest.map (fun p => D.tup [.int (p.2 : Nat), tupN p.1]) ∧ τ = [some (.loc o), some (dR r), some (.loc S.length), v3, v4, v5, v6] ∧
      S'[S.length]? = some (.lst ((done.flatMap ks).map dK)) ∧ Le S S') ⟨[], _, _, _, _, _, rfl, rfl, rfl, get_new, Le.app _ _⟩ ?_ ?_
  · rintro τ S' ⟨done, rest, v3, v4, v5, v6, e1, e2, rfl, e4, e5⟩
    refine ⟨e5 _ _ hb, ?_⟩
    have e' : rest = [] := by simpa using e2.symm
    subst e'
    simp
    refine h _ _ ?_ (Nat.le_refl _) e5
    rw [e4]
    unfold keysOf
    rw [e1, List.append_nil]
  · rintro d rr τ S' N ⟨done, rest, v3, v4, v5, v6, e1, e2, rfl, e4, e5⟩ hN
    refine ⟨e5 _ _ hb, ?_⟩
    cases rest with
    | nil => cases e2
    | cons p rest =>
    simp only [List.map_cons, List.cons.injEq] at e2
    obtain ⟨rfl, rfl⟩ := e2
    have hpz : ords[p.2]? = some p.1 := List.mem_zipIdx_iff_getElem?.mp (by rw [e1]; simp)
    have hpo := hok.2.2 _ (List.mem_of_getElem? hpz)
    have hpl : p.1.length = sz := by simpa using hpo.length_eq
    have hsz := hok.1
    simp
    refine ⟨_, e5 _ _ ho, _, rfl, ?_⟩
    simp
    refine ⟨by omega, by omega, ?_⟩

    rw [rng_nat]
    refine forGo_run (fun items τ S2 => ∃ (dn rs : List Nat) (v5 v6 : Option D), List.range (sz + 1) = dn ++ rs ∧ items = rs.map natD ∧ τ = [some (.loc o), some (dR r), some (.loc S.length), some (.int (p.2 : Nat)), some (tupN p.1), v5, v6] ∧
      S2[S.length]? = some (.lst ((done.flatMap ks ++ dn.map fun m => (p.2, keyP p.1 m r)).map dK)) ∧ Le S S2) ⟨[], _, _, _, rfl, rfl, rfl, by simpa using e4, e5⟩ ?_ ?_
    · rintro τ S2 ⟨dn, rs, v5, v6, f1, f2, rfl, f4, f5⟩
      refine ⟨trivial, ?_⟩
      have e' : rs = [] := by simpa using f2.symm
      subst e'
      rw [List.append_nil] at f1
      refine hN _ _ ⟨done ++ [p], rest, _, _, _, _, by rw [e1]; simp, rfl, rfl, ?_, f5⟩
      rw [f4, List.flatMap_append, ← f1]
      simp [ks]
    · rintro d rr τ S2 N2 ⟨dn, rs, v5, v6, f1, f2, rfl, f4, f5⟩ hN2
      refine ⟨trivial, ?_⟩
      cases rs with
      | nil => cases f2
      | cons m rs =>
      simp only [List.map_cons, List.cons.injEq] at f2
      obtain ⟨rfl, rfl⟩ := f2
      have hm : m ≤ sz := by
        have : m ∈ List.range (sz + 1) := by rw [f1]; simp
        have := List.mem_range.mp this
        omega
      simp [tupN, natD, cutD_to]
      refine ⟨tyD_loc f4, ?_⟩
      have em : (p.1.map natD).take m = (p.1.take m).map natD := by rw [List.map_take]
      rw [em]
      have hml : (p.1.take m).length ≤ sizeLine := by rw [List.length_take]; omega
      refine lc_over natD (fun i => (r[i]?.getD (.num 0)).d) (Le S2) (Le.refl _) (fun _ _ => trivial) hml (fun i S3 N3 hi hS hN3 => ?_) fun S3 hS3 => ?_
      · have h2 : i < sz := List.mem_range.mp (hpo.mem_iff.mp (List.mem_of_mem_take hi))
        have h3 : i < r.length := by omega
        simp [wipeD, dR, natD, atI_nn]
        refine ⟨_, ⟨_, List.getElem?_eq_getElem h3, rfl⟩, ?_⟩
        have := hN3 S3 hS
        rw [List.getElem?_eq_getElem h3] at this
        exact this
      · refine ⟨_, seqD_loc get_new, by omega, ?_⟩
        have f6 := get_app (T := [O.lst ((p.1.take m).map fun i => (r[i]?.getD (.num 0)).d)]) (hS3 _ _ f4)
        have f7 : Le S (S3 ++ [O.lst ((p.1.take m).map fun i => (r[i]?.getD (.num 0)).d)]) := (f5.trans hS3).trans (Le.app _ _)
        have ek : D.tup [D.int (p.2 : Nat), D.tup ((p.1.take m).map fun i => (r[i]?.getD (.num 0)).d)] = dK (p.2, keyP p.1 m r) := by simp [dK, keyP, List.map_map]; rfl
        rw [ek]
        generalize S3 ++ [O.lst ((p.1.take m).map fun i => (r[i]?.getD (.num 0)).d)] = S4 at f6 f7 ⊢
        rw [dAppend_loc f6]
        have hkl := keysOf_len (r := r) hok
        have hle : (done.flatMap ks ++ dn.map fun m => ((p.2, keyP p.1 m r) : Ky)).length ≤ 72 := by
          refine Nat.le_trans ?_ hkl
          unfold keysOf
          rw [e1, List.flatMap_append, List.length_append, List.length_append, List.flatMap_cons, List.length_append]
          have : dn.length ≤ (List.range (sz + 1)).length := by rw [f1]; simp
          simp [ks] at this ⊢
          omega
        refine ⟨by rw [List.length_map]; omega, hN2 _ _ ⟨dn ++ [m], rs, _, _, by rw [f1]; simp, rfl, rfl, ?_, ?_⟩⟩
        · rw [get_set f6, List.map_append, List.map_append, List.map_append, List.map_append, List.append_assoc]
          rfl
        · intro j o' hh
          rw [List.getElem?_set_ne (by have := lt_of_get hh; omega)]
          exact f7 _ _ hh

theorem inj_nodup {α β : Type} {f : α → β} : ∀ {l : List α}, (l.map f).Nodup → ∀ {a b : α}, a ∈ l → b ∈ l → f a = f b → a = b
  | [], _, _, _, h, _, _ => by cases h
  | x :: l, hn, a, b, ha, hb, e => by
    rw [List.map_cons, List.nodup_cons] at hn
    rcases List.mem_cons.mp ha with h1 | h1
    · rcases List.mem_cons.mp hb with h2 | h2
      · rw [h1, h2]
      · rw [h1] at e
        exact absurd (e ▸ List.mem_map_of_mem h2) hn.1
    · rcases List.mem_cons.mp hb with h2 | h2
      · rw [h2] at e
        exact absurd (e ▸ List.mem_map_of_mem h1) hn.1
      · exact inj_nodup hn.2 h1 h2 e
theorem getP_kE_none : ∀ {ent : List En} {k : Ky}, (∀ e ∈ ent, e.1 ≠ k) → getP (ent.map kE) (dK k) = none
  | [], k, _ => by simp [getP]
  | e :: ent, k, h => by
    have ih := getP_kE_none (ent := ent) (k := k) fun e' he => h e' (List.mem_cons_of_mem _ he)
    unfold getP at ih ⊢
    rw [List.map_cons, List.find?_cons]
    have e2 : ¬ (kE e).1 = dK k := fun q => h e List.mem_cons_self (dK_inj q)
    simp only [e2, decide_false]
    exact ih
theorem getP_kE_some : ∀ {ent : List En} {e : En}, e ∈ ent → (ent.map (·.1)).Nodup → getP (ent.map kE) (dK e.1) = some (.loc e.2.1)
  | x :: ent, e, h, hn => by
    unfold getP
    rw [List.map_cons, List.find?_cons]
    by_cases q : x.1 = e.1
    · have := inj_nodup hn List.mem_cons_self h q
      subst this
      simp [kE]
    · have e2 : ¬ (kE x).1 = dK e.1 := fun z => q (dK_inj z)
      simp only [e2, decide_false]
      rw [List.map_cons, List.nodup_cons] at hn
      rcases List.mem_cons.mp h with rfl | h
      · exact absurd rfl q
      · have := getP_kE_some h hn.2
        unfold getP at this
        exact this
theorem kE_plain {ent : List En} (h : ∀ e ∈ ent, okK e.1) : plainK (ent.map kE) := fun p hp => by
  obtain ⟨e, he, rfl⟩ := List.mem_map.mp hp
  exact plain_mono _ (by decide) (dK_plain (h e he))
/-- what a change of the beginnings keeps -/
structure BgKeep (bg : Nat) (ent ent' : List En) (S S' : Sto) : Prop where
  le : S.length ≤ S'.length
  keep : ∀ (j : Nat) (o : O), j ≠ bg → (∀ e ∈ ent, j ≠ e.2.1) → S[j]? = some o → S'[j]? = some o
  new : ∀ e' ∈ ent', (∃ e ∈ ent, e'.2.1 = e.2.1) ∨ S.length ≤ e'.2.1
  len : ent'.length ≤ ent.length + 1
theorem bg_loc {bg : Nat} {ent : List En} {M : Ky → List Th → Prop} {S : Sto} (B : BgAt bg ent M S) {e : En} (he : e ∈ ent) : bg ≠ e.2.1 := fun z => (List.nodup_cons.mp B.locs).1 (z ▸ List.mem_map_of_mem he)
theorem bg_same {bg : Nat} {ent : List En} {M : Ky → List Th → Prop} {S : Sto} (B : BgAt bg ent M S) {e e' : En} (he : e ∈ ent) (he' : e' ∈ ent) (h : e.1 = e'.1) : e = e' := inj_nodup B.keys he he' h
theorem bg_same2 {bg : Nat} {ent : List En} {M : Ky → List Th → Prop} {S : Sto} (B : BgAt bg ent M S) {e e' : En} (he : e ∈ ent) (he' : e' ∈ ent) (h : e.2.1 = e'.2.1) : e = e' := inj_nodup (f := fun e : En => e.2.1) (List.nodup_cons.mp B.locs).2 he he' h
/-- the rows of one entry changed -/
noncomputable def chE (ent : List En) (k : Ky) (rs : List (List Th)) : List En := ent.map fun e => if e.1 = k then (e.1, e.2.1, rs) else e
theorem chE_keys (ent : List En) (k : Ky) (rs : List (List Th)) : (chE ent k rs).map (·.1) = ent.map (·.1) := by
  unfold chE
  rw [List.map_map]
  refine List.map_congr_left fun e _ => ?_
  simp only [Function.comp]
  split <;> rfl
theorem chE_locs (ent : List En) (k : Ky) (rs : List (List Th)) : (chE ent k rs).map (·.2.1) = ent.map (·.2.1) := by
  unfold chE
  rw [List.map_map]
  refine List.map_congr_left fun e _ => ?_
  simp only [Function.comp]
  split <;> rfl
theorem chE_kE (ent : List En) (k : Ky) (rs : List (List Th)) : (chE ent k rs).map kE = ent.map kE := by
  unfold chE
  rw [List.map_map]
  refine List.map_congr_left fun e _ => ?_
  simp only [Function.comp]
  split <;> rfl
theorem chE_mem {ent : List En} {k : Ky} {rs : List (List Th)} {x : En} (h : x ∈ chE ent k rs) : ∃ e ∈ ent, (e.1 = k ∧ x = (e.1, e.2.1, rs)) ∨ (e.1 ≠ k ∧ x = e) := by
  obtain ⟨e, he, rfl⟩ := List.mem_map.mp h
  refine ⟨e, he, ?_⟩
  by_cases q : e.1 = k
  · exact .inl ⟨q, by rw [if_pos q]⟩
  · exact .inr ⟨q, by rw [if_neg q]⟩
theorem bg_change {bg : Nat} {ent : List En} {M M' : Ky → List Th → Prop} {S S' : Sto} (B : BgAt bg ent M S) {e : En} (he : e ∈ ent) {rs : List (List Th)} {ep : Nat} (hl : S.length ≤ S'.length) (hs : ∀ (j : Nat) (o : O), j ≠ e.2.1 → S[j]? = some o → S'[j]? = some o) (hn : S'[e.2.1]? = some (.dct ep (rs.map kR)))
    (nd : rs.Nodup) (ok : ∀ x ∈ rs, okR x) (len : rs.length ≤ 900) (m1 : ∀ x, x ∈ rs ↔ M' e.1 x) (m2 : ∀ k x, k ≠ e.1 → (M' k x ↔ M k x)) : BgAt bg (chE ent e.1 rs) M' S' ∧ BgKeep bg ent (chE ent e.1 rs) S S' := by
  refine ⟨⟨?_, fun x hx => ?_, by rw [chE_keys]; exact B.keys, by rw [chE_locs]; exact B.locs, fun x hx => ?_, fun x hx y => ?_, fun k x hm => ?_⟩, ⟨hl, fun j o hb hj hh => hs j o (hj e he) hh, fun x hx => ?_, by simp [chE]⟩⟩
  · obtain ⟨ep1, h1⟩ := B.here
    exact ⟨ep1, by rw [chE_kE]; exact hs _ _ (bg_loc B he) h1⟩
  · obtain ⟨e2, he2, ⟨h1, rfl⟩ | ⟨h1, rfl⟩⟩ := chE_mem hx
    · have := bg_same B he2 he h1
      subst this
      exact ⟨ep, hn⟩
    · obtain ⟨ep2, h2⟩ := B.ins x he2
      exact ⟨ep2, hs _ _ (fun z => h1 (by rw [bg_same2 B he2 he z])) h2⟩
  · obtain ⟨e2, he2, ⟨h1, rfl⟩ | ⟨h1, rfl⟩⟩ := chE_mem hx
    · exact ⟨(B.ok e2 he2).1, nd, ok, len⟩
    · exact B.ok x he2
  · obtain ⟨e2, he2, ⟨h1, rfl⟩ | ⟨h1, rfl⟩⟩ := chE_mem hx
    · show y ∈ rs ↔ M' e2.1 y
      rw [h1]
      exact m1 y
    · rw [m2 _ _ h1]
      exact B.rows x he2 y
  · by_cases q : k = e.1
    · exact ⟨(e.1, e.2.1, rs), List.mem_map.mpr ⟨e, he, by rw [if_pos rfl]⟩, q.symm⟩
    · obtain ⟨e2, he2, h2⟩ := B.all k x ((m2 k x q).mp hm)
      exact ⟨e2, List.mem_map.mpr ⟨e2, he2, by rw [if_neg (by rw [h2]; exact q)]⟩, h2⟩
  · obtain ⟨e2, he2, ⟨h1, rfl⟩ | ⟨h1, rfl⟩⟩ := chE_mem hx
    · exact .inl ⟨e2, he2, rfl⟩
    · exact .inl ⟨x, he2, rfl⟩
theorem bg_add {bg : Nat} {ent : List En} {M : Ky → List Th → Prop} {S : Sto} {k : Ky} {r : List Th} {Rs : Sto → Prop} (B : BgAt bg ent M S) (hk : okK k) (hr : okR r) (hm : ¬ M k r) (hlen : ent.length ≤ 100000) (U : List (List Th)) (hU : U.length ≤ 900) (hMU : ∀ x, M k x ∨ x = r → x ∈ U)
    (q : ∀ S' ent', BgAt bg ent' (fun k' x => M k' x ∨ (k' = k ∧ x = r)) S' → BgKeep bg ent ent' S S' → Rs S') : dSetdef (.loc bg) [dK k, .loc S.length] (S ++ [.dct 0 []]) fun d S1 => dSet d (dR r) (.bl true) S1 Rs := by
  have hsl : sizeLine = 16777216 := sizeLine_eq
  obtain ⟨ep, hb⟩ := B.here
  have hbl := lt_of_get hb
  have kp := kE_plain fun e he => (B.ok e he).1
  rw [dSetdef_P (get_app hb) kp (plain_mono _ (by decide) (dK_plain hk))]
  refine ⟨by rw [List.length_map]; omega, ?_⟩
  by_cases he : ∃ e ∈ ent, e.1 = k
  · obtain ⟨e, he, rfl⟩ := he
    rw [getP_kE_some he B.keys, eitherD_some]
    obtain ⟨ep2, h2⟩ := B.ins e he
    obtain ⟨o1, o2, o3, o4⟩ := B.ok e he
    have hnr : r ∉ e.2.2 := fun z => hm ((B.rows e he r).mp z)
    rw [dSet_P (get_app h2) (kR_plain o3) (plain_mono _ (by decide) (dR_plain hr)), putP_kR hnr]
    refine ⟨by rw [List.length_map]; omega, ?_⟩
    have nd : (e.2.2 ++ [r]).Nodup := by
      rw [List.nodup_append]
      exact ⟨o2, by simp, fun a ha b hb e => hnr (by rw [List.mem_singleton.mp hb] at e; exact e ▸ ha)⟩
    have mem : ∀ x, x ∈ e.2.2 ++ [r] ↔ M e.1 x ∨ (e.1 = e.1 ∧ x = r) := fun x => by
      rw [List.mem_append, List.mem_singleton, B.rows e he x]
      simp
    obtain ⟨b1, b2⟩ := bg_change (M' := fun k' x => M k' x ∨ (k' = e.1 ∧ x = r)) (S' := (S ++ [O.dct 0 []]).set e.2.1 (.dct (epP ep2 (e.2.2.map kR) (dR r)) ((e.2.2 ++ [r]).map kR))) B he (rs := e.2.2 ++ [r]) (by simp) (fun j o hj hh => by rw [List.getElem?_set_ne (Ne.symm hj)]; exact get_app hh) (get_set (get_app h2)) nd
      (fun x hx => by
        rcases List.mem_append.mp hx with hx | hx
        · exact o3 x hx
        · rw [List.mem_singleton.mp hx]; exact hr)
      (Nat.le_trans (nodup_len _ U nd fun x hx => hMU x (by have := (mem x).mp hx; simpa using this)) hU) mem fun k' x hne => by simp [hne]
    exact q _ _ b1 b2
  · have hno : ∀ e ∈ ent, e.1 ≠ k := fun e h z => he ⟨e, h, z⟩
    rw [getP_kE_none hno, eitherD_none]
    have hnew : ((S ++ [O.dct 0 []]).set bg (.dct (ep + 1) (ent.map kE ++ [(dK k, .loc S.length)])))[S.length]? = some (.dct 0 (([] : List (List Th)).map kR)) := by
      rw [List.getElem?_set_ne (by omega)]
      exact get_new
    rw [dSet_P hnew (kR_plain (by simp)) (plain_mono _ (by decide) (dR_plain hr)), putP_kR (by simp)]
    refine ⟨by simp; omega, ?_⟩
    have oth : ∀ (j : Nat) (o u : O), j ≠ bg → S[j]? = some o → (((S ++ [O.dct 0 []]).set bg (.dct (ep + 1) (ent.map kE ++ [(dK k, .loc S.length)]))).set S.length u)[j]? = some o := fun j o u hj hh => by
      have := lt_of_get hh
      rw [List.getElem?_set_ne (by omega), List.getElem?_set_ne (Ne.symm hj)]
      exact get_app hh
    refine q _ (ent ++ [(k, S.length, [r])]) ⟨⟨ep + 1, ?_⟩, fun e he => ?_, ?_, ?_, fun e he => ?_, fun e he x => ?_, fun k' x hmm => ?_⟩ ⟨by simp, fun j o hb hj hh => oth j o _ hb hh, fun e he => ?_, by simp⟩
    · rw [List.getElem?_set_ne (by omega), get_set (get_app hb), List.map_append]
      rfl
    · rcases List.mem_append.mp he with he | he
      · obtain ⟨ep2, h2⟩ := B.ins e he
        exact ⟨ep2, oth _ _ _ (Ne.symm (bg_loc B he)) h2⟩
      · rw [List.mem_singleton.mp he]
        exact ⟨_, get_set hnew⟩
    · rw [List.map_append, List.nodup_append]
      refine ⟨B.keys, by simp, fun a ha b hb' e => ?_⟩
      obtain ⟨x, hx, rfl⟩ := List.mem_map.mp ha
      simp at hb'
      exact hno x hx (e.trans hb')
    · have hl := B.locs
      have : bg :: (ent ++ [((k, S.length, [r]) : En)]).map (·.2.1) = (bg :: ent.map (·.2.1)) ++ [S.length] := by simp
      rw [this, List.nodup_append]
      refine ⟨hl, by simp, fun a ha b hb' e => ?_⟩
      rw [List.mem_singleton.mp hb'] at e
      subst e
      rcases List.mem_cons.mp ha with ha | ha
      · omega
      · obtain ⟨x, hx, e⟩ := List.mem_map.mp ha
        obtain ⟨ep2, h2⟩ := B.ins x hx
        have := lt_of_get h2
        omega
    · rcases List.mem_append.mp he with he | he
      · exact B.ok e he
      · rw [List.mem_singleton.mp he]
        exact ⟨hk, by simp, by simpa using hr, by simp⟩
    · rcases List.mem_append.mp he with he | he
      · rw [B.rows e he x]
        simp [hno e he]
      · rw [List.mem_singleton.mp he]
        simp only [List.mem_singleton, true_and]
        constructor
        · exact .inr
        · rintro (h | h)
          · obtain ⟨e2, h2, h3⟩ := B.all k x h
            exact absurd h3 (hno e2 h2)
          · exact h
    · rcases hmm with h | ⟨rfl, rfl⟩
      · obtain ⟨e2, h2, h3⟩ := B.all k' x h
        exact ⟨e2, List.mem_append_left _ h2, h3⟩
      · exact ⟨_, List.mem_append_right _ (List.mem_singleton.mpr rfl), rfl⟩
    · rcases List.mem_append.mp he with he | he
      · exact .inl ⟨e, he, rfl⟩
      · rw [List.mem_singleton.mp he]
        exact .inr (Nat.le_refl _)
theorem bg_take {bg : Nat} {ent : List En} {M : Ky → List Th → Prop} {S : Sto} {k : Ky} {r : List Th} {K : DQ} (B : BgAt bg ent M S) (hr : okR r) (hm : M k r)
    (q : ∀ d S' ent', BgAt bg ent' (fun k' x => M k' x ∧ ¬ (k' = k ∧ x = r)) S' → BgKeep bg ent ent' S S' → K d S') : dIx (.loc bg) (dK k) S fun d S1 => isDct S1 d ∧ dPopK d [dR r] S1 K := by
  obtain ⟨ep, hb⟩ := B.here
  have kp := kE_plain fun e he => (B.ok e he).1
  obtain ⟨e, he, rfl⟩ := B.all k r hm
  rw [dIx_P hb kp (plain_mono _ (by decide) (dK_plain (B.ok e he).1))]
  obtain ⟨ep2, h2⟩ := B.ins e he
  refine ⟨_, getP_kE_some he B.keys, isDct_loc h2, ?_⟩
  obtain ⟨o1, o2, o3, o4⟩ := B.ok e he
  have hin : r ∈ e.2.2 := (B.rows e he r).mpr hm
  obtain ⟨j, hj, hjr⟩ := List.getElem_of_mem hin
  obtain ⟨kk, k1, k2⟩ := keyD_plain (plain_mono _ (by decide : 5 ≤ 8) (dR_plain hr))
  have hmem : ∀ x, x ∈ e.2.2.eraseIdx j ↔ x ∈ e.2.2 ∧ x ≠ r := fun x => by
    rw [List.mem_eraseIdx_iff_getElem]
    constructor
    · rintro ⟨i, hi, hne, rfl⟩
      refine ⟨List.getElem_mem _, fun z => hne ?_⟩
      rw [← hjr] at z
      exact (List.getElem_inj o2).mp z
    · rintro ⟨h1, h3⟩
      obtain ⟨i, hi, rfl⟩ := List.getElem_of_mem h1
      exact ⟨i, hi, fun z => h3 (by subst z; exact hjr), rfl⟩
  refine dPopK_loc h2 k1 (j := j) (p := kR r) (by rw [List.getElem?_map, List.getElem?_eq_getElem hj, hjr]; rfl) k2 ?_
  have nd : (e.2.2.eraseIdx j).Nodup := o2.sublist (List.eraseIdx_sublist ..)
  obtain ⟨b1, b2⟩ := bg_change (M' := fun k' x => M k' x ∧ ¬ (k' = e.1 ∧ x = r)) (S' := S.set e.2.1 (.dct (ep2 + 1) ((e.2.2.map kR).eraseIdx j))) B he (rs := e.2.2.eraseIdx j) (ep := ep2 + 1) (by simp) (fun j' o hj' hh => by rw [List.getElem?_set_ne (Ne.symm hj')]; exact hh) (by rw [get_set h2, map_erase]) nd
    (fun x hx => o3 x ((hmem x).mp hx).1) (by have := List.length_eraseIdx_le e.2.2 j; omega) (fun x => by rw [hmem, B.rows e he x]; simp) fun k' x hne => by simp [hne]
  exact q _ _ _ b1 b2

structure ShKeep (kd bg n : Nat) (ent ent' : List En) (S S' : Sto) : Prop where
  le : S.length ≤ S'.length
  keep : ∀ (j : Nat) (o : O), j ≠ kd → j ≠ bg → (∀ e ∈ ent, j ≠ e.2.1) → S[j]? = some o → S'[j]? = some o
  new : ∀ e' ∈ ent', (∃ e ∈ ent, e'.2.1 = e.2.1) ∨ S.length ≤ e'.2.1
  len : ent'.length ≤ ent.length + n
/-- the beginnings alone: what is neither they nor theirs stays -/
structure BKn (bg n : Nat) (ent ent' : List En) (S S' : Sto) : Prop where
  le : S.length ≤ S'.length
  keep : ∀ (j : Nat) (o : O), j ≠ bg → (∀ e ∈ ent, j ≠ e.2.1) → S[j]? = some o → S'[j]? = some o
  new : ∀ e' ∈ ent', (∃ e ∈ ent, e'.2.1 = e.2.1) ∨ S.length ≤ e'.2.1
  len : ent'.length ≤ ent.length + n
theorem BKn.refl (bg : Nat) (ent : List En) (S : Sto) : BKn bg 0 ent ent S S := ⟨Nat.le_refl _, fun _ _ _ _ h => h, fun e he => .inl ⟨e, he, rfl⟩, by simp⟩
theorem BKn.step {bg n : Nat} {ent ent1 ent2 : List En} {S S1 S2 : Sto} (a : BKn bg n ent ent1 S S1) (b : BgKeep bg ent1 ent2 S1 S2) : BKn bg (n + 1) ent ent2 S S2 := by
  refine ⟨Nat.le_trans a.le b.le, fun j o hb hj hh => b.keep j o hb (fun e he z => ?_) (a.keep j o hb hj hh), fun e he => ?_, by have := a.len; have := b.len; omega⟩
  · rcases a.new e he with ⟨e2, h1, h2⟩ | h
    · exact hj e2 h1 (z.trans h2)
    · have := lt_of_get hh
      omega
  · rcases b.new e he with ⟨e2, h1, h2⟩ | h
    · rcases a.new e2 h1 with ⟨e3, h3, h4⟩ | h3
      · exact .inl ⟨e3, h3, h2.trans h4⟩
      · exact .inr (by rw [h2]; exact h3)
    · exact .inr (Nat.le_trans a.le h)
theorem BgAt.congr {bg : Nat} {ent : List En} {M M' : Ky → List Th → Prop} {S : Sto} (B : BgAt bg ent M S) (h : ∀ k x, M k x ↔ M' k x) : BgAt bg ent M' S :=
  ⟨B.here, B.ins, B.keys, B.locs, B.ok, fun e he x => (B.rows e he x).trans (h _ _), fun k x hm => B.all k x ((h k x).mpr hm)⟩
theorem BgAt.mono {bg : Nat} {ent : List En} {M : Ky → List Th → Prop} {S S' : Sto} (B : BgAt bg ent M S) (h : ∀ (j : Nat) (o : O), (j = bg ∨ ∃ e ∈ ent, j = e.2.1) → S[j]? = some o → S'[j]? = some o) : BgAt bg ent M S' := by
  obtain ⟨ep, h1⟩ := B.here
  refine ⟨⟨ep, h _ _ (.inl rfl) h1⟩, fun e he => ?_, B.keys, B.locs, B.ok, B.rows, B.all⟩
  obtain ⟨ep2, h2⟩ := B.ins e he
  exact ⟨ep2, h _ _ (.inr ⟨e, he, rfl⟩) h2⟩
theorem dct_ne {S : Sto} {i j ep : Nat} {kvs : List (D × D)} {xs : List D} (h1 : S[i]? = some (.lst xs)) (h2 : S[j]? = some (.dct ep kvs)) : i ≠ j := fun z => by
  subst z
  rw [h1] at h2
  cases h2
theorem dct_ne2 {S : Sto} {i j ep : Nat} {kvs : List (D × D)} {c : Str} {xs : List (Str × D)} (h1 : S[i]? = some (.ins c xs)) (h2 : S[j]? = some (.dct ep kvs)) : i ≠ j := fun z => by
  subst z
  rw [h1] at h2
  cases h2
theorem BgAt.ne_lst {bg : Nat} {ent : List En} {M : Ky → List Th → Prop} {S : Sto} (B : BgAt bg ent M S) {i : Nat} {xs : List D} (h : S[i]? = some (.lst xs)) : i ≠ bg ∧ ∀ e ∈ ent, i ≠ e.2.1 := by
  obtain ⟨ep, h1⟩ := B.here
  refine ⟨dct_ne h h1, fun e he => ?_⟩
  obtain ⟨ep2, h2⟩ := B.ins e he
  exact dct_ne h h2
theorem BgAt.ne_ins {bg : Nat} {ent : List En} {M : Ky → List Th → Prop} {S : Sto} (B : BgAt bg ent M S) {i : Nat} {c : Str} {xs : List (Str × D)} (h : S[i]? = some (.ins c xs)) : i ≠ bg ∧ ∀ e ∈ ent, i ≠ e.2.1 := by
  obtain ⟨ep, h1⟩ := B.here
  refine ⟨dct_ne2 h h1, fun e he => ?_⟩
  obtain ⟨ep2, h2⟩ := B.ins e he
  exact dct_ne2 h h2
theorem shF_no {sz b kd bg : Nat} : ∀ (a : Str) (d : D), (a, d) ∈ shF sz b kd bg → ¬Str.ofString "keys_of" = a := by
  intro a d h
  simp [shF] at h
  rcases h with ⟨h, _⟩ | ⟨h, _⟩ | ⟨h, _⟩ | ⟨h, _⟩ <;> (rw [h]; decide +kernel)
def S_Shelf_add : DSp := fun ds S R => ∃ (o b kd bg sz : Nat) (ords : List (List Nat)) (kept : List (List Th)) (ent : List En) (r : List Th), ds = [.loc o, dR r] ∧ ShAt o b kd bg sz ords kept ent S ∧ okR r ∧ r.length = sz ∧ kept.length ≤ 800 ∧ ent.length ≤ 50000 ∧
  (r ∈ kept → R (.bl false) S) ∧ (r ∉ kept → ∀ S' ent', ShAt o b kd bg sz ords (kept ++ [r]) ent' S' → ShKeep kd bg 72 ent ent' S S' → R (.bl true) S')
theorem sem_Shelf_add : ∀ ds S R, S_Shelf_add ds S R → ds.length = 2 ∧ w_Shelf_add S_Shelf_keys_of (endsD R) (startD 3 ds) S := by
  rintro ds S R ⟨o, b, kd, bg, sz, ords, kept, ent, r, rfl, Sh, hr, hl, hk8, he5, h1, h2⟩
  refine ⟨rfl, ?_⟩
  have hsl : sizeLine = 16777216 := sizeLine_eq
  obtain ⟨ep, hkd⟩ := Sh.kept_
  have pr : plainD 8 (dR r) = true := plain_mono _ (by decide) (dR_plain hr)
  have pk := kR_plain fun x hx => (Sh.ok x hx).1
  simp [w_Shelf_add, startD]
  refine ⟨_, Sh.obj, _, rfl, ?_⟩
  rw [dIn_P hkd pk pr, getP_kR]
  by_cases hin : r ∈ kept
  · exact .inr (by simpa [hin] using h1 hin)
  · simp only [hin, decide_false]
    refine .inl ⟨trivial, ⟨_, Sh.obj, _, rfl, ?_⟩⟩
    rw [dSet_P hkd pk pr, putP_kR hin]
    refine ⟨by rw [List.length_map]; omega, ?_⟩
    have k3 : ∀ (j : Nat) (o : O), j ≠ kd → S[j]? = some o → (S.set kd (.dct (epP ep (kept.map kR) (dR r)) ((kept ++ [r]).map kR)))[j]? = some o := fun j o hj hh => by rw [List.getElem?_set_ne (Ne.symm hj)]; exact hh
    have l3 : (S.set kd (.dct (epP ep (kept.map kR) (dR r)) ((kept ++ [r]).map kR))).length = S.length := by simp
    have kd3 := get_set (o' := O.dct (epP ep (kept.map kR) (dR r)) ((kept ++ [r]).map kR)) hkd
    generalize S.set kd (.dct (epP ep (kept.map kR) (dR r)) ((kept ++ [r]).map kR)) = S3 at k3 l3 kd3 ⊢
    have okd : o ≠ kd := dct_ne2 Sh.obj hkd
    have bkd : b ≠ kd := dct_ne Sh.by_ hkd
    have obj3 := k3 _ _ okd Sh.obj
    have by3 := k3 _ _ bkd Sh.by_
    have B3 : BgAt bg ent (fun k x => x ∈ kept ∧ k ∈ keysOf sz ords x) S3 := Sh.bg_.mono fun j u hj hh => k3 j u (by
      rcases hj with rfl | ⟨e, he, rfl⟩
      · exact Ne.symm Sh.ne.1
      · exact Ne.symm (Sh.ne.2 e he)) hh
    refine ⟨⟨_, obj3, shF_no⟩, o, b, kd, bg, sz, ords, r, rfl, obj3, by3, Sh.ordok, hr, hl, fun m S4 hm hml y4 => ?_⟩
    refine ⟨_, _, itemsD_loc hm, ?_⟩
    have B4 : BgAt bg ent (fun k x => x ∈ kept ∧ k ∈ keysOf sz ords x) S4 := B3.mono fun j u _ hh => y4 j u hh
    have knd := keysOf_nodup (r := r) Sh.ordok
    have kok := keysOf_ok Sh.ordok hr hl
    have klen := keysOf_len (r := r) Sh.ordok
    refine forGo_run (fun items τ S' => ∃ (done rest : List Ky) (ent' : List En) (v : Option D), keysOf sz ords r = done ++ rest ∧ items = rest.map dK ∧ τ = [some (.loc o), some (dR r), v] ∧
      BgAt bg ent' (fun k x => (x ∈ kept ∧ k ∈ keysOf sz ords x) ∨ (x = r ∧ k ∈ done)) S' ∧ BKn bg done.length ent ent' S4 S') ⟨[], _, ent, _, rfl, rfl, rfl, B4.congr fun k x => by simp, BKn.refl _ _ _⟩ ?_ ?_
    · rintro τ S' ⟨done, rest, ent', v, e1, e2, rfl, B', K'⟩
      have e' : rest = [] := by simpa using e2.symm
      subst e'
      rw [List.append_nil] at e1
      obtain ⟨n1, n2⟩ := B4.ne_lst hm
      refine ⟨K'.keep _ _ n1 n2 hm, ?_⟩
      simp
      have kp : ∀ (j : Nat) (u : O), j ≠ bg → (∀ e ∈ ent, j ≠ e.2.1) → S3[j]? = some u → S'[j]? = some u := fun j u h1 h2 hh => K'.keep j u h1 h2 (y4 _ _ hh)
      have o1 := B3.ne_ins obj3
      have b1 := B3.ne_lst by3
      refine h2 hin S' ent' ⟨kp _ _ o1.1 o1.2 obj3, kp _ _ b1.1 b1.2 by3, ⟨_, kp _ _ Sh.ne.1 Sh.ne.2 kd3⟩, B'.congr fun k x => ?_, ⟨Sh.ne.1, fun e he => ?_⟩, Sh.ordok, fun x hx => ?_, ?_, by simp; omega⟩
        ⟨by have := K'.le; have := y4.len; omega, fun j u hj1 hj2 hj3 hh => kp j u hj2 hj3 (k3 j u hj1 hh), fun e he => ?_, by have := K'.len; rw [e1] at klen; omega⟩
      · rw [← e1, List.mem_append, List.mem_singleton]
        constructor
        · rintro (h | ⟨rfl, h⟩)
          · exact ⟨.inl h.1, h.2⟩
          · exact ⟨.inr rfl, h⟩
        · rintro ⟨h | rfl, h'⟩
          · exact .inl ⟨h, h'⟩
          · exact .inr ⟨rfl, h'⟩
      · rcases K'.new e he with ⟨e2, h3, h4⟩ | h3
        · rw [h4]
          exact Sh.ne.2 e2 h3
        · have := lt_of_get kd3
          have := y4.len
          omega
      · rcases List.mem_append.mp hx with hx | hx
        · exact Sh.ok x hx
        · rw [List.mem_singleton.mp hx]
          exact ⟨hr, hl⟩
      · rw [List.nodup_append]
        exact ⟨Sh.nd, by simp, fun a ha b hb e => hin (by rw [List.mem_singleton.mp hb] at e; exact e ▸ ha)⟩
      · rcases K'.new e he with h3 | h3
        · exact .inl h3
        · exact .inr (by have := y4.len; omega)
    · rintro d rr τ S' N ⟨done, rest, ent', v, e1, e2, rfl, B', K'⟩ hN
      obtain ⟨n1, n2⟩ := B4.ne_lst hm
      refine ⟨K'.keep _ _ n1 n2 hm, ?_⟩
      cases rest with
      | nil => cases e2
      | cons k rest =>
      simp only [List.map_cons, List.cons.injEq] at e2
      obtain ⟨rfl, rfl⟩ := e2
      have o1 := B3.ne_ins obj3
      have objS := K'.keep _ _ o1.1 o1.2 (y4 _ _ obj3)
      have hkm : k ∈ keysOf sz ords r := by rw [e1]; simp
      have hkd' : k ∉ done := by
        rw [e1, List.nodup_append] at knd
        exact fun h => knd.2.2 k h k List.mem_cons_self rfl
      have hdl : done.length ≤ 72 := by rw [e1] at klen; simp at klen; omega
      simp
      refine ⟨_, objS, _, rfl, ?_⟩
      obtain ⟨epb, hbg⟩ := B'.here
      refine ⟨by simp [isDct, hbg], ?_⟩
      refine bg_add B' (kok k hkm) hr (fun h => ?_) (by have := K'.len; omega) (kept ++ [r]) (by simp; omega) (fun x hx => ?_) fun S'' ent'' b1 b2 => ?_
      · rcases h with h | ⟨_, h⟩
        · exact hin h.1
        · exact hkd' h
      · rcases hx with (h | ⟨h, _⟩) | h
        · exact List.mem_append_left _ h.1
        · rw [h]; simp
        · rw [h]; simp
      · refine hN _ _ ⟨done ++ [k], rest, ent'', _, by rw [e1]; simp, rfl, rfl, b1.congr fun k' x => ?_, by have := K'.step b2; simpa using this⟩
        rw [List.mem_append, List.mem_singleton]
        constructor
        · rintro ((h | ⟨h, h'⟩) | ⟨h, h'⟩)
          · exact .inl h
          · exact .inr ⟨h, .inl h'⟩
          · exact .inr ⟨h', .inr h⟩
        · rintro (h | ⟨h, h' | h'⟩)
          · exact .inl (.inl h)
          · exact .inl (.inr ⟨h, h'⟩)
          · exact .inr ⟨h', h⟩

def S_Shelf_take : DSp := fun ds S R => ∃ (o b kd bg sz : Nat) (ords : List (List Nat)) (kept : List (List Th)) (ent : List En) (r : List Th), ds = [.loc o, dR r] ∧ ShAt o b kd bg sz ords kept ent S ∧ okR r ∧ r.length = sz ∧ kept.length ≤ 800 ∧ ent.length ≤ 50000 ∧
  (r ∉ kept → R (.bl false) S) ∧ (r ∈ kept → ∀ S' ent', ShAt o b kd bg sz ords (kept.erase r) ent' S' → ShKeep kd bg 72 ent ent' S S' → R (.bl true) S')
theorem erase_at {r : List Th} : ∀ {us : List (List Th)} {j : Nat}, us.Nodup → us[j]? = some r → us.eraseIdx j = us.erase r
  | [], j, _, h => by simp at h
  | u :: us, 0, _, h => by
    have e : u = r := by simpa using h
    rw [e, List.erase_cons_head]
    rfl
  | u :: us, j + 1, hn, h => by
    have h' : us[j]? = some r := by simpa using h
    rw [List.nodup_cons] at hn
    have hne : u ≠ r := fun e => hn.1 (e ▸ List.mem_of_getElem? h')
    rw [List.erase_cons_tail (by simpa using hne), List.eraseIdx_cons_succ, erase_at hn.2 h']
theorem sem_Shelf_take : ∀ ds S R, S_Shelf_take ds S R → ds.length = 2 ∧ w_Shelf_take S_Shelf_keys_of (endsD R) (startD 3 ds) S := by
  rintro ds S R ⟨o, b, kd, bg, sz, ords, kept, ent, r, rfl, Sh, hr, hl, hk8, he5, h1, h2⟩
  refine ⟨rfl, ?_⟩
  have hsl : sizeLine = 16777216 := sizeLine_eq
  obtain ⟨ep, hkd⟩ := Sh.kept_
  have pr : plainD 8 (dR r) = true := plain_mono _ (by decide) (dR_plain hr)
  have pk := kR_plain fun x hx => (Sh.ok x hx).1
  simp [w_Shelf_take, startD]
  refine ⟨_, Sh.obj, _, rfl, ?_⟩
  rw [dNotIn_P hkd pk pr, getP_kR]
  by_cases hin : r ∈ kept
  case neg => exact .inr (by simpa [hin] using h1 hin)
  · simp only [hin, decide_true, Bool.not_true]
    refine .inl ⟨trivial, ⟨_, Sh.obj, _, rfl, isDct_loc hkd, ?_⟩⟩
    obtain ⟨j0, hj0, hjr⟩ := List.getElem_of_mem hin
    have hjg : kept[j0]? = some r := by rw [List.getElem?_eq_getElem hj0, hjr]
    obtain ⟨kk, kk1, kk2⟩ := keyD_plain pr
    refine dPopK_loc hkd kk1 (j := j0) (p := kR r) (by rw [List.getElem?_map, hjg]; rfl) kk2 ?_
    rw [← map_erase, erase_at Sh.nd hjg]
    have k3 : ∀ (j : Nat) (o : O), j ≠ kd → S[j]? = some o → (S.set kd (.dct (ep + 1) ((kept.erase r).map kR)))[j]? = some o := fun j o hj hh => by rw [List.getElem?_set_ne (Ne.symm hj)]; exact hh
    have l3 : (S.set kd (.dct (ep + 1) ((kept.erase r).map kR))).length = S.length := by simp
    have kd3 := get_set (o' := O.dct (ep + 1) ((kept.erase r).map kR)) hkd
    generalize S.set kd (.dct (ep + 1) ((kept.erase r).map kR)) = S3 at k3 l3 kd3 ⊢
    have okd : o ≠ kd := dct_ne2 Sh.obj hkd
    have bkd : b ≠ kd := dct_ne Sh.by_ hkd
    have obj3 := k3 _ _ okd Sh.obj
    have by3 := k3 _ _ bkd Sh.by_
    have B3 : BgAt bg ent (fun k x => x ∈ kept ∧ k ∈ keysOf sz ords x) S3 := Sh.bg_.mono fun j u hj hh => k3 j u (by
      rcases hj with rfl | ⟨e, he, rfl⟩
      · exact Ne.symm Sh.ne.1
      · exact Ne.symm (Sh.ne.2 e he)) hh
    refine ⟨⟨_, obj3, shF_no⟩, o, b, kd, bg, sz, ords, r, rfl, obj3, by3, Sh.ordok, hr, hl, fun m S4 hm hml y4 => ?_⟩
    refine ⟨_, _, itemsD_loc hm, ?_⟩
    have B4 : BgAt bg ent (fun k x => x ∈ kept ∧ k ∈ keysOf sz ords x) S4 := B3.mono fun j u _ hh => y4 j u hh
    have knd := keysOf_nodup (r := r) Sh.ordok
    have kok := keysOf_ok Sh.ordok hr hl
    have klen := keysOf_len (r := r) Sh.ordok
    refine forGo_run (fun items τ S' => ∃ (done rest : List Ky) (ent' : List En) (v : Option D), keysOf sz ords r = done ++ rest ∧ items = rest.map dK ∧ τ = [some (.loc o), some (dR r), v] ∧
      BgAt bg ent' (fun k x => (x ∈ kept ∧ k ∈ keysOf sz ords x) ∧ ¬ (x = r ∧ k ∈ done)) S' ∧ BKn bg done.length ent ent' S4 S') ⟨[], _, ent, _, rfl, rfl, rfl, B4.congr fun k x => by simp, BKn.refl _ _ _⟩ ?_ ?_
    · rintro τ S' ⟨done, rest, ent', v, e1, e2, rfl, B', K'⟩
      have e' : rest = [] := by simpa using e2.symm
      subst e'
      rw [List.append_nil] at e1
      obtain ⟨n1, n2⟩ := B4.ne_lst hm
      refine ⟨K'.keep _ _ n1 n2 hm, ?_⟩
      simp
      have kp : ∀ (j : Nat) (u : O), j ≠ bg → (∀ e ∈ ent, j ≠ e.2.1) → S3[j]? = some u → S'[j]? = some u := fun j u h1 h2 hh => K'.keep j u h1 h2 (y4 _ _ hh)
      have o1 := B3.ne_ins obj3
      have b1 := B3.ne_lst by3
      refine h2 hin S' ent' ⟨kp _ _ o1.1 o1.2 obj3, kp _ _ b1.1 b1.2 by3, ⟨_, kp _ _ Sh.ne.1 Sh.ne.2 kd3⟩, B'.congr fun k x => ?_, ⟨Sh.ne.1, fun e he => ?_⟩, Sh.ordok, fun x hx => ?_, ?_, by have := List.length_erase_le (a := r) (l := kept); omega⟩
        ⟨by have := K'.le; have := y4.len; omega, fun j u hj1 hj2 hj3 hh => kp j u hj2 hj3 (k3 j u hj1 hh), fun e he => ?_, by have := K'.len; rw [e1] at klen; omega⟩
      · rw [← e1, Sh.nd.mem_erase_iff]
        constructor
        · rintro ⟨⟨g1, g2⟩, g3⟩
          exact ⟨⟨fun z => g3 ⟨z, by rw [← z]; exact g2⟩, g1⟩, g2⟩
        · rintro ⟨⟨g1, g2⟩, g3⟩
          exact ⟨⟨g2, g3⟩, fun z => g1 z.1⟩
      · rcases K'.new e he with ⟨e2, h3, h4⟩ | h3
        · rw [h4]
          exact Sh.ne.2 e2 h3
        · have := lt_of_get kd3
          have := y4.len
          omega
      · exact Sh.ok x (List.mem_of_mem_erase hx)
      · exact Sh.nd.erase r
      · rcases K'.new e he with h3 | h3
        · exact .inl h3
        · exact .inr (by have := y4.len; omega)
    · rintro d rr τ S' N ⟨done, rest, ent', v, e1, e2, rfl, B', K'⟩ hN
      obtain ⟨n1, n2⟩ := B4.ne_lst hm
      refine ⟨K'.keep _ _ n1 n2 hm, ?_⟩
      cases rest with
      | nil => cases e2
      | cons k rest =>
      simp only [List.map_cons, List.cons.injEq] at e2
      obtain ⟨rfl, rfl⟩ := e2
      have o1 := B3.ne_ins obj3
      have objS := K'.keep _ _ o1.1 o1.2 (y4 _ _ obj3)
      have hkm : k ∈ keysOf sz ords r := by rw [e1]; simp
      have hkd' : k ∉ done := by
        rw [e1, List.nodup_append] at knd
        exact fun h => knd.2.2 k h k List.mem_cons_self rfl
      have hdl : done.length ≤ 72 := by rw [e1] at klen; simp at klen; omega
      simp
      refine ⟨_, objS, _, rfl, ?_⟩
      refine bg_take B' hr ⟨⟨hin, hkm⟩, fun z => hkd' z.2⟩ fun d S'' ent'' b1 b2 => ?_
      refine hN _ _ ⟨done ++ [k], rest, ent'', _, by rw [e1]; simp, rfl, rfl, b1.congr fun k' x => ?_, by have := K'.step b2; simpa using this⟩
      rw [List.mem_append, List.mem_singleton]
      constructor
      · rintro ⟨⟨g1, g2⟩, g3⟩
        exact ⟨g1, fun ⟨z1, z2⟩ => z2.elim (fun z2 => g2 ⟨z1, z2⟩) fun z2 => g3 ⟨z2, z1⟩⟩
      · rintro ⟨g1, g2⟩
        exact ⟨⟨g1, fun z => g2 ⟨z.1, .inl z.2⟩⟩, fun z => g2 ⟨z.2, .inr z.1⟩⟩
def S_Shelf_rows : DSp := fun ds S R => ∃ (o b kd bg sz : Nat) (ords : List (List Nat)) (kept : List (List Th)) (ent : List En), ds = [.loc o] ∧ ShAt o b kd bg sz ords kept ent S ∧
  ∀ vs m S', SR vs kept → RsAt m vs S' → S.length ≤ m → Le S S' → R (.loc m) S'
theorem sem_Shelf_rows : ∀ ds S R, S_Shelf_rows ds S R → ds.length = 1 ∧ w_Shelf_rows S_sorted_rows (endsD R) (startD 1 ds) S := by
  rintro ds S R ⟨o, b, kd, bg, sz, ords, kept, ent, rfl, Sh, h⟩
  refine ⟨rfl, ?_⟩
  obtain ⟨ep, hkd⟩ := Sh.kept_
  simp [w_Shelf_rows, startD]
  refine ⟨_, Sh.obj, _, rfl, ?_⟩
  rw [dListA_dct hkd]
  have e : (kept.map kR).map (·.1) = kept.map dR := by rw [List.map_map]; rfl
  rw [e]
  refine ⟨S.length, kept, rfl, ⟨get_new, fun r hr => (Sh.ok r hr).1, Sh.len⟩, fun vs m S' h1 h2 h3 h4 => h vs m S' h1 h2 (by simp at h3; omega) ((Le.app _ _).trans h4)⟩
def S_Shelf___init__ : DSp := fun ds S R => ∃ (o hl sz : Nat) (ords : List (List Nat)), ds = [.loc o, .int (sz : Nat), .loc hl] ∧ S[o]? = some (.ins "Shelf" []) ∧ S[hl]? = some (.lst (ords.map tupN)) ∧ OrdOk sz ords ∧
  ∀ b kd bg S', ShAt o b kd bg sz ords [] [] S' → S.length ≤ b → S.length ≤ kd → S.length ≤ bg → S.length ≤ S'.length → (∀ (j : Nat) (u : O), j ≠ o → S[j]? = some u → S'[j]? = some u) → R .non S'
theorem sem_Shelf___init__ : ∀ ds S R, S_Shelf___init__ ds S R → ds.length = 3 ∧ w_Shelf___init__ (endsD R) (startD 4 ds) S := by
  rintro ds S R ⟨o, hl, sz, ords, rfl, ho, hh, hok, h⟩
  refine ⟨rfl, ?_⟩
  have hsl : sizeLine = 16777216 := sizeLine_eq
  have hol := lt_of_get ho
  have hne : hl ≠ o := fun z => by subst z; rw [ho] at hh; cases hh
  simp [w_Shelf___init__, startD]
  refine ⟨_, ho, by simp, ?_⟩
  have e1 : putA "many" (D.int (sz : Nat)) [] = ([("many", .int (sz : Nat))] : List (Str × D)) := rfl
  rw [e1]
  have s1 := get_set (o' := O.ins "Shelf" [("many", .int (sz : Nat))]) ho
  have k1 : ∀ (j : Nat) (u : O), j ≠ o → S[j]? = some u → (S.set o (.ins "Shelf" [("many", .int (sz : Nat))]))[j]? = some u := fun j u hj hh => by rw [List.getElem?_set_ne (Ne.symm hj)]; exact hh
  have l1 : (S.set o (.ins "Shelf" [("many", .int (sz : Nat))])).length = S.length := by simp
  generalize S.set o (.ins "Shelf" [("many", .int (sz : Nat))]) = S1 at s1 k1 l1 ⊢
  have hh1 := k1 _ _ hne hh
  have := hok.2.1
  refine ⟨_, _, itemsD_loc hh1, ?_⟩
  refine lc_over tupN tupN (Le S1) (Le.refl _) (fun _ x => x _ _ hh1) (by omega) (fun x S' N hx hS hN => ?_) fun S2 hS2 => ?_
  · simp [wipeD, tupN]
    exact hN S' hS
  · have o2 := get_app (T := [O.lst (ords.map tupN)]) (hS2 _ _ s1)
    refine ⟨_, o2, by simp, ?_⟩
    have e2 : putA "by" (D.loc S2.length) [("many", D.int (sz : Nat))] = ([("many", .int (sz : Nat)), ("by", .loc S2.length)] : List (Str × D)) := rfl
    rw [e2]
    have b2 : (S2 ++ [O.lst (ords.map tupN)])[S2.length]? = some (.lst (ords.map tupN)) := get_new
    have hb2 : S2.length ≠ o := by have := hS2.len; omega
    have lx : (S2 ++ [O.lst (ords.map tupN)]).length = S2.length + 1 := by simp
    have kx : ∀ (j : Nat) (u : O), j ≠ o → S[j]? = some u → (S2 ++ [O.lst (ords.map tupN)])[j]? = some u := fun j u hj hh => get_app (hS2 _ _ (k1 j u hj hh))
    have hl2 := hS2.len
    generalize S2 ++ [O.lst (ords.map tupN)] = X at o2 b2 lx kx ⊢
    have s3 := get_set (o' := O.ins "Shelf" [("many", .int (sz : Nat)), ("by", .loc S2.length)]) o2
    have k3 : ∀ (j : Nat) (u : O), j ≠ o → X[j]? = some u → (X.set o (.ins "Shelf" [("many", .int (sz : Nat)), ("by", .loc S2.length)]))[j]? = some u := fun j u hj hh => by rw [List.getElem?_set_ne (Ne.symm hj)]; exact hh
    have l3 : (X.set o (.ins "Shelf" [("many", .int (sz : Nat)), ("by", .loc S2.length)])).length = X.length := by simp
    rw [← l3]
    generalize X.set o (.ins "Shelf" [("many", .int (sz : Nat)), ("by", .loc S2.length)]) = X3 at s3 k3 l3 ⊢
    refine ⟨_, get_app s3, by simp, ?_⟩
    have e4 : putA "kept" (D.loc X3.length) [("many", D.int (sz : Nat)), ("by", .loc S2.length)] = ([("many", .int (sz : Nat)), ("by", .loc S2.length), ("kept", .loc X3.length)] : List (Str × D)) := rfl
    rw [e4]
    have s4 := get_set (o' := O.ins "Shelf" [("many", .int (sz : Nat)), ("by", .loc S2.length), ("kept", .loc X3.length)]) (get_app (T := [O.dct 0 []]) s3)
    have ho3 : o < X3.length := lt_of_get s3
    have d4 : ((X3 ++ [O.dct 0 []]).set o (.ins "Shelf" [("many", .int (sz : Nat)), ("by", .loc S2.length), ("kept", .loc X3.length)]))[X3.length]? = some (.dct 0 []) := by
      rw [List.getElem?_set_ne (by omega)]
      exact get_new
    have k4 : ∀ (j : Nat) (u : O), j ≠ o → X3[j]? = some u → ((X3 ++ [O.dct 0 []]).set o (.ins "Shelf" [("many", .int (sz : Nat)), ("by", .loc S2.length), ("kept", .loc X3.length)]))[j]? = some u := fun j u hj hh => by rw [List.getElem?_set_ne (Ne.symm hj)]; exact get_app hh
    have l4 : ((X3 ++ [O.dct 0 []]).set o (.ins "Shelf" [("many", .int (sz : Nat)), ("by", .loc S2.length), ("kept", .loc X3.length)])).length = X3.length + 1 := by simp
    rw [← l4]
    generalize (X3 ++ [O.dct 0 []]).set o (.ins "Shelf" [("many", .int (sz : Nat)), ("by", .loc S2.length), ("kept", .loc X3.length)]) = X4 at s4 d4 k4 l4 ⊢
    refine ⟨_, get_app s4, by simp, ?_⟩
    have e5 : putA "beginnings" (D.loc X4.length) [("many", D.int (sz : Nat)), ("by", .loc S2.length), ("kept", .loc X3.length)] = shF sz S2.length X3.length X4.length := rfl
    rw [e5]
    have oth : ∀ (j : Nat) (u : O), j ≠ o → X4[j]? = some u → ((X4 ++ [O.dct 0 []]).set o (.ins "Shelf" (shF sz S2.length X3.length X4.length)))[j]? = some u := fun j u hj hh => by rw [List.getElem?_set_ne (Ne.symm hj)]; exact get_app hh
    refine h S2.length X3.length X4.length _ ⟨get_set (get_app s4), oth _ _ hb2 (k4 _ _ hb2 (k3 _ _ hb2 b2)), ⟨0, oth _ _ (by omega) d4⟩, ⟨⟨0, ?_⟩, by simp, by simp, by simp, by simp, by simp, by simp⟩, ⟨by omega, by simp⟩, hok, by simp, by simp, by simp⟩ (by omega) (by omega) (by omega) (by simp; omega) fun j u hj hh => oth j u hj (k4 j u hj (k3 j u hj (kx j u hj hh)))
    rw [List.getElem?_set_ne (by omega)]
    exact get_new

theorem ths_of {P : Th → Prop} {items ys : List D} (h : All2 (fun _ y => ∃ t : Th, y = t.d ∧ P t) items ys) : ∃ ts : List Th, ys = ts.map Th.d ∧ (∀ t ∈ ts, P t) ∧ ts.length = items.length := by
  induction h with
  | nil => exact ⟨[], rfl, by simp, rfl⟩
  | cons q _ ih =>
    obtain ⟨t, rfl, ht⟩ := q
    obtain ⟨ts, rfl, h2, h3⟩ := ih
    exact ⟨t :: ts, rfl, by
      intro z hz
      rcases List.mem_cons.mp hz with e | hz
      · rw [e]; exact ht
      · exact h2 z hz, by simp [h3]⟩
def S_law_thing : Nat → DSp
  | 0 => fun _ _ _ => False
  | n + 1 => fun ds S R => ∃ (l : Nat) (k : Int), ds = [.loc l, .int k] ∧ 0 ≤ k ∧ k ≤ n ∧ n ≤ 8 ∧ Draw l (fun d => ∃ t, okT k.toNat t ∧ d = t.d) S R
theorem sem_law_thing : ∀ n ds S R, S_law_thing (n + 1) ds S R → ds.length = 2 ∧ w_law_thing S_law_pick (S_law_thing n) (endsD R) (startD 5 ds) S := by
  rintro n ds S R ⟨l, k, rfl, hk, hkn, hn, hl, h⟩
  refine ⟨rfl, ?_⟩
  have hsl : sizeLine = 16777216 := sizeLine_eq
  have hz1 : 1 ≤ sizeLine := by omega
  have hz3 : 3 ≤ sizeLine := by omega
  have hz5 : 5 ≤ sizeLine := by omega
  have hp4 : CPow 10 40 := by unfold CPow; decide
  have hp2 : CPow 10 20 := by unfold CPow; decide
  have hpw : (2:Nat) ^ 200 = 1606938044258990275541962092341162602522202993782792835301376 := by decide
  simp [w_law_thing, startD]
  refine ⟨l, 6, rfl, by decide, by decide, hl, fun way S1 a1 b1 g1 => ?_⟩
  have num : (¬way = 3 ∧ S_law_pick [D.loc l, D.int 5] S1 fun d1 S1 => dSub d1 (D.int 2) S1 R) ∨
        way = 3 ∧ CPow 10 40 ∧ CPow 10 20 ∧ 3 ≤ sizeLine ∧
                S_law_pick [D.loc l, D.int 3] (S1 ++ [O.lst [D.int 9999999999999999999999999999999999999999, D.int (-9999999999999999999999999999999999999999), D.int 100000000000000000000]])
                  fun d2 S2 => dIx (D.loc (List.length S1)) d2 S2 R := by
    by_cases h3 : way = 3
    · refine .inr ⟨h3, hp4, hp2, hz3, l, 3, rfl, by decide, by decide, g1.at_.le (Le.app _ _), fun n2 S2 a2 b2 g2 => ?_⟩
      have hs2 := g2.get (get_new (S := S1)) (g1.at_.ne (Nat.le_refl _))
      obtain ⟨y, hy, hm⟩ := atI_mem (m := n2) (xs := [D.int 9999999999999999999999999999999999999999, D.int (-9999999999999999999999999999999999999999), D.int 100000000000000000000]) a2 (by simpa using b2)
      simp only [dIx_loc hs2, hy]
      refine ⟨_, rfl, h _ _ ?_ ((g1.app _).trans g2)⟩
      simp at hm
      rcases hm with rfl | rfl | rfl
      · exact ⟨.num 9999999999999999999999999999999999999999, okT_num (by decide), by simp [Th.d]⟩
      · exact ⟨.num (-9999999999999999999999999999999999999999), okT_num (by decide), by simp [Th.d]⟩
      · exact ⟨.num 100000000000000000000, okT_num (by decide), by simp [Th.d]⟩
    · refine .inl ⟨h3, l, 5, rfl, by decide, by decide, g1.at_, fun n2 S2 a2 b2 g2 => ?_⟩
      simp
      exact h _ _ ⟨.num (n2 - 2), okT_num (by omega), by simp [Th.d]⟩ (g1.trans g2)
  by_cases hw : way < 3
  · by_cases hk0 : 0 < k
    · simp [hw, hk0, hz5]
      refine .inr ⟨l, 5, rfl, by decide, by decide, g1.at_.le (Le.app _ _), fun n2 S2 a2 b2 g2 => ?_⟩
      have hs2 := g2.get (get_new (S := S1)) (g1.at_.ne (Nat.le_refl _))
      obtain ⟨y, hy, hm⟩ := atI_mem (m := n2) (xs := [D.str "a", D.str "b", D.str "a1", D.str "ab", D.str "b.c"]) a2 (by simpa using b2)
      simp only [dIx_loc hs2, hy]
      obtain ⟨w, rfl, hwl⟩ : ∃ w : Str, y = .str w ∧ w.length ≤ 60 := by
        simp at hm
        rcases hm with rfl | rfl | rfl | rfl | rfl <;> exact ⟨_, rfl, by decide +kernel⟩
      refine ⟨_, rfl, hz1, l, 5, rfl, by decide, by decide, g2.at_.le (Le.app _ _), fun n3 S3 a3 b3 g3 => ?_⟩
      have hs3 := g3.get (get_new (S := S2)) (g2.at_.ne (Nat.le_refl _))
      obtain ⟨y, hy, hm⟩ := atI_mem (m := n3) (xs := [D.int 0, D.int 1, D.int 2, D.int 1, D.int 4]) a3 (by simpa using b3)
      simp only [dIx_loc hs3, hy]
      obtain ⟨j, rfl, j0, j4⟩ : ∃ j : Int, y = .int j ∧ 0 ≤ j ∧ j ≤ 4 := by
        simp at hm
        rcases hm with rfl | rfl | rfl | rfl | rfl <;> exact ⟨_, rfl, by omega, by omega⟩
      refine ⟨_, rfl, j, rfl, by omega, by omega, ?_⟩
      have g13 : Gr l S S3 := (((g1.app _).trans g2).app _).trans g3
      refine lc_map (fun _ y => ∃ t : Th, y = t.d ∧ okT (k - 1).toNat t) (fun S' => Gr l S3 S') (Gr.refl g3.at_) (fun _ _ => trivial) (by simp; omega) ?_ ?_
      · intro d S' N hd gS hN
        simp [wipeD]
        match n, hkn, hn with
        | 0, hkn, _ => omega
        | n + 1, hkn, hn => exact ⟨l, k - 1, rfl, by omega, by omega, by omega, gS.at_, fun d S2 ⟨t, ht, e⟩ g => hN _ _ ⟨t, e, ht⟩ (gS.trans g)⟩
      · intro ys S' gS hall
        refine ⟨_, seqD_loc get_new, ?_⟩
        obtain ⟨ts, rfl, ht, hlen⟩ := ths_of hall
        simp at hlen
        refine ⟨by simp; omega, ?_⟩
        have ek : k.toNat = (k - 1).toNat + 1 := by omega
        have := h (Th.made w ts).d (S' ++ [O.lst (ts.map Th.d)]) ⟨.made w ts, by rw [ek]; exact ⟨hwl, by omega, ht⟩, rfl⟩ (g13.trans (gS.app _))
        rw [Th.d] at this
        exact this
    · simp [hw, hk0]
      exact ⟨by omega, num⟩
  · simp [hw]
    exact num

theorem get2a {S : Sto} {a b : O} : (S ++ [a, b])[S.length]? = some a := by simp
theorem get2b {S : Sto} {a b : O} : (S ++ [a, b])[S.length + 1]? = some b := by simp

def S_law_orders_drawn : DSp := fun ds S R => ∃ (l sz : Nat), ds = [.loc l, .int (sz : Nat)] ∧ sz ≤ 8 ∧ LAt l S ∧ ∀ (m : Nat) (ords : List (List Nat)) (S' : Sto), OrdOk sz ords → S'[m]? = some (.lst (ords.map tupN)) → S.length ≤ m → Gr l S S' → R (.loc m) S'
theorem ins_perm {p : List Nat} {n i : Nat} (h : p.Perm (List.range n)) : (p.take i ++ [n] ++ p.drop i).Perm (List.range (n + 1)) := by
  rw [List.range_succ]
  have h1 : (p.take i ++ [n] ++ p.drop i).Perm (p ++ [n]) := by
    have h2 : (p.take i ++ [n] ++ p.drop i).Perm (p.take i ++ (p.drop i ++ [n])) := by
      rw [List.append_assoc]
      exact List.Perm.append_left _ List.perm_append_comm
    rw [← List.append_assoc, List.take_append_drop] at h2
    exact h2
  exact h1.trans (h.append_right _)
theorem sem_law_orders_drawn : ∀ ds S R, S_law_orders_drawn ds S R → ds.length = 2 ∧ w_law_orders_drawn S_law_pick (endsD R) (startD 6 ds) S := by
  rintro ds S R ⟨l, sz, rfl, hsz, hl, h⟩
  refine ⟨rfl, ?_⟩
  have hsl : sizeLine = 16777216 := sizeLine_eq
  have hz6 : 6 ≤ sizeLine := by omega
  have hpw : (2:Nat) ^ 200 = 1606938044258990275541962092341162602522202993782792835301376 := by decide
  simp [w_law_orders_drawn, startD, hz6]
  refine ⟨l, 6, rfl, by decide, by decide, hl.le (Le.app _ _), fun n1 S1 a1 b1 g1 => ?_⟩
  have hll : l < S.length := by
    obtain ⟨a, b, e, _⟩ := hl
    exact lt_of_get e
  have hs1 := g1.get (get2b (S := S) (a := O.lst []) (b := O.lst [D.int 1, D.int 2, D.int 3, D.int 1, D.int 8, D.int 0])) (by omega)
  have hln := g1.get (get2a (S := S) (a := O.lst []) (b := O.lst [D.int 1, D.int 2, D.int 3, D.int 1, D.int 8, D.int 0])) (by omega)
  obtain ⟨y, hy, hm⟩ := atI_mem (m := n1) (xs := [D.int 1, D.int 2, D.int 3, D.int 1, D.int 8, D.int 0]) a1 (by simpa using b1)
  simp only [dIx_loc hs1, hy]
  obtain ⟨j, rfl, j0, j8⟩ : ∃ j : Int, y = .int j ∧ 0 ≤ j ∧ j ≤ 8 := by
    simp at hm
    rcases hm with rfl | rfl | rfl | rfl | rfl | rfl <;> exact ⟨_, rfl, by omega, by omega⟩
  refine ⟨_, rfl, j, rfl, by omega, by omega, ?_⟩
  have hlen1 : S.length + 2 ≤ S1.length := by have := g1.x.1; simpa using this
  refine forGo_run (fun items τ S' => ∃ (ords : List (List Nat)) (v3 v4 v5 : Option D), τ = [some (.loc l), some (.int (sz : Nat)), some (.loc S.length), v3, v4, v5] ∧ ords.length + items.length ≤ 8 ∧ (∀ o ∈ ords, o.Perm (List.range sz)) ∧
      S'[S.length]? = some (.lst (ords.map tupN)) ∧ LAt l S' ∧ S1.length ≤ S'.length ∧ ∀ (j : Nat) (o : O), j ≠ l → S[j]? = some o → S'[j]? = some o)
    ⟨[], _, _, _, rfl, by simp; omega, by simp, hln, g1.at_, Nat.le_refl _, fun j o hj hh => g1.get (get_app hh) hj⟩ ?_ ?_
  · rintro τ S' ⟨ords, v3, v4, v5, rfl, e1, e2, e3, e4, e5, e6⟩
    refine ⟨trivial, ?_⟩
    simp
    exact h _ ords S' ⟨hsz, by simpa using e1, e2⟩ e3 (Nat.le_refl _) ⟨e4, by omega, e6⟩
  · rintro d rr τ S' N ⟨ords, v3, v4, v5, rfl, e1, e2, e3, e4, e5, e6⟩ hN
    refine ⟨trivial, ?_⟩
    simp only [List.length_cons] at e1
    simp
    refine ⟨by omega, ?_⟩
    rw [rng_nat]
    have hl' : l < S'.length := by omega
    refine forGo_run (fun items τ S2 => ∃ (i : Nat) (p : List Nat) (v5 : Option D), items = ((List.range sz).drop i).map natD ∧ i ≤ sz ∧ τ = [some (.loc l), some (.int (sz : Nat)), some (.loc S.length), some d, some (.loc S'.length), v5] ∧ p.Perm (List.range i) ∧
        S2[S'.length]? = some (.lst (p.map natD)) ∧ LAt l S2 ∧ S'.length < S2.length ∧ ∀ (j : Nat) (o : O), j ≠ l → S'[j]? = some o → S2[j]? = some o)
      ⟨0, [], _, rfl, Nat.zero_le _, rfl, by simp, get_new, e4.le (Le.app _ _), by simp, fun j o hj hh => get_app hh⟩ ?_ ?_
    · rintro τ S2 ⟨i, p, v5, f1, f2, rfl, f3, f4, f5, f6, f7⟩
      refine ⟨trivial, ?_⟩
      have hi : i = sz := by
        have := congrArg List.length f1
        simp at this
        omega
      subst hi
      have e3' := f7 _ _ (by omega) e3
      simp
      refine ⟨tyD_loc e3', _, seqD_loc f4, ?_⟩
      rw [dAppend_loc e3']
      have em : ords.map tupN ++ [D.tup (p.map natD)] = (ords ++ [p]).map tupN := by simp [tupN]
      rw [em]
      refine ⟨by simp; omega, hN _ _ ⟨ords ++ [p], _, _, _, rfl, by simp; omega, fun o ho => ?_, get_set e3', ?_, by simp; omega, fun j' o hj hh => ?_⟩⟩
      · rcases List.mem_append.mp ho with ho | ho
        · exact e2 o ho
        · rw [List.mem_singleton.mp ho]
          exact f3
      · obtain ⟨a, b, x1, x2⟩ := f5
        exact ⟨a, b, by rw [List.getElem?_set_ne (by omega)]; exact x1, x2⟩
      · have := lt_of_get hh
        rw [List.getElem?_set_ne (by omega)]
        exact f7 _ _ hj (e6 _ _ hj hh)
    · rintro d2 r2 τ S2 N2 ⟨i, p, v5, f1, f2, rfl, f3, f4, f5, f6, f7⟩ hN2
      refine ⟨trivial, ?_⟩
      have hi : i < sz := by
        have := congrArg List.length f1
        simp at this
        omega
      have hi' : i < (List.range sz).length := by simpa using hi
      rw [List.drop_eq_getElem_cons hi', List.map_cons] at f1
      injection f1 with f1a f1b
      subst f1a f1b
      have eg : (List.range sz)[i] = i := by simp
      rw [eg]
      have hp : p.length = i := by simpa using f3.length_eq
      simp
      refine ⟨tyD_loc f4, ?_⟩
      rw [dLen_loc f4]
      simp
      refine ⟨l, _, rfl, by omega, by omega, f5, fun n3 S3 a3 b3 g3 => ?_⟩
      have f4' := g3.get f4 (by omega)
      show dInsert _ _ _ _
      rw [dInsert_loc f4']
      refine ⟨by simp; omega, by omega, by omega, ?_⟩
      have em : (p.map natD).take n3.toNat ++ [natD i] ++ (p.map natD).drop n3.toNat = (p.take n3.toNat ++ [i] ++ p.drop n3.toNat).map natD := by simp [List.map_take, List.map_drop]
      rw [em]
      refine hN2 _ _ ⟨i + 1, p.take n3.toNat ++ [i] ++ p.drop n3.toNat, _, rfl, hi, rfl, ins_perm f3, get_set f4', ?_, ?_, fun j' o hj hh => ?_⟩
      · obtain ⟨a, b, x1, x2⟩ := g3.at_
        exact ⟨a, b, by rw [List.getElem?_set_ne (by omega)]; exact x1, x2⟩
      · have := g3.x.1
        simp
        omega
      · have := lt_of_get hh
        rw [List.getElem?_set_ne (by omega)]
        exact g3.get (f7 _ _ hj hh) hj

def S_law_row : DSp := fun ds S R => ∃ (l sz sm : Nat) (some_ : List Th), ds = [.loc l, .int (sz : Nat), .loc sm] ∧ sz ≤ 8 ∧ LAt l S ∧ S[sm]? = some (.lst (some_.map Th.d)) ∧ sm ≠ l ∧ some_ ≠ [] ∧ some_.length ≤ 100 ∧ (∀ t ∈ some_, okT 3 t) ∧ ∀ (r : List Th) (S' : Sto), okR r → r.length = sz → Gr l S S' → R (dR r) S'
theorem sem_law_row : ∀ ds S R, S_law_row ds S R → ds.length = 3 ∧ w_law_row S_law_pick (endsD R) (startD 4 ds) S := by
  rintro ds S R ⟨l, sz, sm, some_, rfl, hsz, hl, hs, hne, hsn, hsl0, hst, h⟩
  refine ⟨rfl, ?_⟩
  have hsl : sizeLine = 16777216 := sizeLine_eq
  have hpw : (2:Nat) ^ 200 = 1606938044258990275541962092341162602522202993782792835301376 := by decide
  have hpos : 0 < some_.length := List.length_pos_iff.mpr hsn
  simp [w_law_row, startD]
  refine ⟨by omega, ?_⟩
  refine lc_map (fun _ y => ∃ t : Th, y = t.d ∧ okT 3 t) (fun S' => Gr l S S') (Gr.refl hl) (fun _ _ => trivial) (by simp; omega) ?_ ?_
  · intro d S' N hd gS hN
    have hs' := gS.get hs hne
    simp [wipeD]
    rw [dLen_loc hs']
    simp
    refine ⟨l, _, rfl, by omega, by omega, gS.at_, fun n S2 a2 b2 g2 => ?_⟩
    have hs2 := g2.get hs' hne
    obtain ⟨y, hy, hm⟩ := atI_mem (m := n) (xs := some_.map Th.d) a2 (by simpa using b2)
    simp only [dIx_loc hs2, hy]
    obtain ⟨t, ht, rfl⟩ := List.mem_map.mp hm
    exact ⟨_, rfl, hN _ _ ⟨t, rfl, hst t ht⟩ (gS.trans g2)⟩
  · intro ys S' gS hall
    obtain ⟨ts, rfl, ht, hlen⟩ := ths_of hall
    simp at hlen
    refine ⟨_, seqD_loc get_new, ?_⟩
    exact h ts _ ⟨by omega, ht⟩ hlen (gS.app _)
def S_law_told : DSp := fun ds S R => ∃ (m n : Nat) (vs us : List (List Th)), ds = [.loc m, .loc n] ∧ RsAt m vs S ∧ RsAt n us S ∧ Pure (.bl (decide (vs = us))) S R
theorem rs_plain {rs : List (List Th)} (h : ∀ r ∈ rs, okR r) : plainsD 100 (rs.map dR) = true := plains_of fun d hd => by
  obtain ⟨r, hr, rfl⟩ := List.mem_map.mp hd
  exact plain_mono _ (by decide) (dR_plain (h r hr))
theorem rs_inj {a b : List (List Th)} (h : a.map dR = b.map dR) : a = b := (List.map_inj_right fun x y e => dR_inj e).mp h
theorem sem_law_told : ∀ ds S R, S_law_told ds S R → ds.length = 2 ∧ w_law_told (endsD R) (startD 3 ds) S := by
  rintro ds S R ⟨m, n, vs, us, rfl, ⟨hm, ho, hn⟩, ⟨hm2, ho2, hn2⟩, h⟩
  refine ⟨rfl, ?_⟩
  have hsl : sizeLine = 16777216 := sizeLine_eq
  simp [w_law_told, startD, typD_lst hm]
  refine ⟨_, _, itemsD_loc hm, ?_⟩
  refine lc_over dR (fun _ => .bl true) (Le S) (Le.refl _) (fun _ x => x _ _ hm) (by omega) (fun r S' N hr hS hN => ?_) fun S' hS => ?_
  · simp [wipeD, dR]
    exact hN S' hS
  · have m3 := get_app (T := [O.lst (vs.map fun _ => D.bl true)]) (hS _ _ hm)
    have n3 := get_app (T := [O.lst (vs.map fun _ => D.bl true)]) (hS _ _ hm2)
    have y3 : Le S (S' ++ [O.lst (vs.map fun _ => D.bl true)]) := hS.trans (Le.app _ _)
    refine ⟨_, ⟨_, lstD_loc get_new⟩, _, blsD_mapf (f := fun _ => true) vs, .inr ⟨by simp, ?_⟩⟩
    rw [eqD_lsts m3 n3 (rs_plain ho) (rs_plain ho2)]
    have hq := h _ y3
    by_cases e : vs = us
    · have e2 : vs.map dR = us.map dR := by rw [e]
      exact .inr ⟨by simp [e2], by simpa [e] using hq⟩
    · have e2 : ¬ vs.map dR = us.map dR := fun z => e (rs_inj z)
      exact .inl ⟨by simp [e2], by simpa [e] using hq⟩

/-! a shelf asked -/
def rAt (r : List Th) (i : Nat) : Th := r[i]?.getD (.num 0)
def tellF : List Nat → List Th → Nat → Th
  | i :: is, t :: ts, x => if x = i then t else tellF is ts x
  | _, _, _ => .num 0
theorem tellF_map : ∀ {is : List Nat} {ts : List Th}, is.Nodup → is.length = ts.length → is.map (tellF is ts) = ts
  | [], [], _, _ => rfl
  | [], _ :: _, _, h => by simp at h
  | _ :: _, [], _, h => by simp at h
  | i :: is, t :: ts, hn, hl => by
    rw [List.nodup_cons] at hn
    have ih := tellF_map (ts := ts) hn.2 (by simpa using hl)
    rw [List.map_cons]
    congr 1
    · simp [tellF]
    · rw [← ih]
      refine List.map_congr_left fun x hx => ?_
      have hne : x ≠ i := fun e => hn.1 (e ▸ hx)
      rw [ih]
      simp [tellF, hne]
def nKey (i : Nat) : Key := .inl (i : Int)
theorem nKey_d (i : Nat) : kD (nKey i) = natD i := rfl
theorem getP_app {acc : List (D × D)} {k k' v : D} (h : getP acc k = none) (hne : k' ≠ k) : getP (acc ++ [(k', v)]) k = none := by
  unfold getP at h ⊢
  rw [Option.map_eq_none_iff] at h ⊢
  rw [List.find?_append, h]
  simp [hne]
theorem zipK_new : ∀ {is : List Nat} {ds : List D} {acc : List (D × D)}, is.Nodup → (∀ i ∈ is, getP acc (natD i) = none) → zipK acc ((is.map nKey).zip ds) = acc ++ (is.zip ds).map fun p => (natD p.1, p.2)
  | [], ds, acc, _, _ => by simp [zipK]
  | i :: is, [], acc, _, _ => by simp [zipK]
  | i :: is, d :: ds, acc, hn, h => by
    rw [List.nodup_cons] at hn
    have e : putP acc (natD i) d = acc ++ [(natD i, d)] := by
      unfold putP
      rw [h i List.mem_cons_self]
      rfl
    have ih := zipK_new (is := is) (ds := ds) (acc := acc ++ [(natD i, d)]) hn.2 fun j hj => getP_app (h j (List.mem_cons_of_mem _ hj)) fun z => hn.1 (natD_inj z ▸ hj)
    rw [List.map_cons, List.zip_cons_cons, List.zip_cons_cons, List.map_cons]
    unfold zipK at ih ⊢
    rw [List.foldl_cons]
    dsimp only
    rw [nKey_d, e, ih, List.append_assoc]
    rfl
theorem getP_tell : ∀ {is : List Nat} {ts : List Th} {x : Nat}, is.length = ts.length → x ∈ is → getP ((is.zip (ts.map Th.d)).map fun p => (natD p.1, p.2)) (natD x) = some (tellF is ts x).d
  | [], _, _, _, h => by cases h
  | _ :: _, [], _, h, _ => by simp at h
  | i :: is, t :: ts, x, hl, hx => by
    unfold getP
    rw [List.map_cons, List.zip_cons_cons, List.map_cons, List.find?_cons]
    by_cases e : x = i
    · subst e
      simp [tellF]
    · have e2 : ¬ natD i = natD x := fun z => e (natD_inj z).symm
      have hx' : x ∈ is := (List.mem_cons.mp hx).resolve_left e
      have := getP_tell (ts := ts) (by simpa using hl) hx'
      unfold getP at this
      simp only [e2, decide_false, tellF, e, if_false]
      exact this
theorem srt_uniq : ∀ {p q : List Nat}, p.Perm q → p.Pairwise (· ≤ ·) → q.Pairwise (· ≤ ·) → p = q
  | [], q, h, _, _ => (List.nil_perm.mp h).symm
  | a :: p, [], h, _, _ => by have := h.length_eq; simp at this
  | a :: p, b :: q, h, h1, h2 => by
    rw [List.pairwise_cons] at h1 h2
    have e : a = b := by
      rcases List.mem_cons.mp (h.mem_iff.mp List.mem_cons_self) with e | ha
      · exact e
      · rcases List.mem_cons.mp (h.mem_iff.mpr List.mem_cons_self) with e | hb
        · exact e.symm
        · have := h1.1 b hb
          have := h2.1 a ha
          omega
    subst e
    rw [srt_uniq ((List.perm_cons a).mp h) h1.2 h2.2]
theorem srt_nats (p : List Nat) : Srt (p.map natD) := by
  refine ⟨.inl fun d hd => ?_, fun d hd => ?_, fun d hd c hc => ?_⟩
  · obtain ⟨x, _, rfl⟩ := List.mem_map.mp hd
    exact ⟨_, rfl⟩
  · obtain ⟨x, _, rfl⟩ := List.mem_map.mp hd
    rfl
  · obtain ⟨x, _, rfl⟩ := List.mem_map.mp hd
    obtain ⟨y, _, rfl⟩ := List.mem_map.mp hc
    exact ⟨_, rfl⟩
theorem nat_le {u : List Nat} (hw : (u.map natD).Pairwise fun a b => ltT b a = false) : u.Pairwise (· ≤ ·) := by
  refine (List.pairwise_map.mp hw).imp fun {a b} h => ?_
  have : cmpT (natD b) (natD a) ≠ .lt := fun e => by
    have : ltT (natD b) (natD a) = true := ltT_iff.mpr e
    rw [this] at h
    cases h
  unfold natD at this
  rw [cmpT, Ne, if3_lt] at this
  omega
theorem SR.congr {vs rs rs' : List (List Th)} (h : SR vs rs) (e : ∀ r, r ∈ rs ↔ r ∈ rs') : SR vs rs' := ⟨h.1, fun r => (h.2 r).trans (e r)⟩
/-- which rows a key stands for -/
theorem key_rows {sz idx : Nat} {ords : List (List Nat)} {ord places : List Nat} {things : List Th} {r : List Th} (hok : OrdOk sz ords) (hi : ords[idx]? = some ord) (hp : (ord.take places.length).Perm places) (hn : places.Nodup) (hl : places.length = things.length) (hr : r.length = sz) :
    (idx, (ord.take places.length).map (tellF places things)) ∈ keysOf sz ords r ↔ places.map (rAt r) = things := by
  have ho := hok.2.2 _ (List.mem_of_getElem? hi)
  have hol : ord.length = sz := by simpa using ho.length_eq
  have hpl : places.length ≤ sz := by
    have := hp.length_eq
    rw [List.length_take] at this
    omega
  have e1 : places.map (rAt r) = things ↔ ∀ i ∈ places, rAt r i = tellF places things i := by
    constructor
    · intro e i hi
      have h2 : places.map (rAt r) = places.map (tellF places things) := by rw [e, tellF_map hn hl]
      exact List.map_inj_left.mp h2 i hi
    · intro e
      rw [← tellF_map hn hl]
      exact List.map_congr_left fun i hi => e i hi
  rw [e1]
  unfold keysOf
  constructor
  · intro h
    obtain ⟨p, hpz, h⟩ := List.mem_flatMap.mp h
    obtain ⟨m, hm, e⟩ := List.mem_map.mp h
    have hpz' := List.mem_zipIdx_iff_getElem?.mp hpz
    simp only [Prod.mk.injEq] at e
    obtain ⟨e2, e3⟩ := e
    rw [e2, hi] at hpz'
    have e4 : ord = p.1 := Option.some.inj hpz'
    rw [← e4] at e3
    have hm' : m ≤ sz := by have := List.mem_range.mp hm; omega
    have el := congrArg List.length e3
    rw [keyP_len ho hm', List.length_map, List.length_take] at el
    have em : m = places.length := by omega
    subst em
    unfold keyP at e3
    intro i hi'
    exact List.map_inj_left.mp e3 i (hp.mem_iff.mpr hi')
  · intro h
    refine List.mem_flatMap.mpr ⟨(ord, idx), List.mem_zipIdx_iff_getElem?.mpr hi, List.mem_map.mpr ⟨places.length, List.mem_range.mpr (by omega), ?_⟩⟩
    simp only [Prod.mk.injEq, true_and]
    unfold keyP
    exact List.map_congr_left fun i hi' => h i (hp.mem_iff.mp hi')
def S_Shelf_found : DSp := fun ds S R => ∃ (o b kd bg sz th : Nat) (ords : List (List Nat)) (kept : List (List Th)) (ent : List En) (places : List Nat) (things : List Th), ds = [.loc o, tupN places, .loc th] ∧ ShAt o b kd bg sz ords kept ent S ∧ S[th]? = some (.lst (things.map Th.d)) ∧ places.Nodup ∧ places.length = things.length ∧ (∀ t ∈ things, okT 3 t) ∧ (∃ ord ∈ ords, ∃ m, (ord.take m).Perm places) ∧
  ∀ vs m S', SR vs (kept.filter fun r => decide (places.map (rAt r) = things)) → RsAt m vs S' → S.length ≤ m → Le S S' → R (.loc m) S'
theorem sem_Shelf_found : ∀ ds S R, S_Shelf_found ds S R → ds.length = 3 ∧ w_Shelf_found S_sorted_rows (endsD R) (startD 9 ds) S := by
  rintro ds S R ⟨o, b, kd, bg, sz, th, ords, kept, ent, places, things, rfl, Sh, hth, hnd, hln, hot, ⟨ord0, ho0, m0, hp0⟩, h⟩
  refine ⟨rfl, ?_⟩
  have hsl : sizeLine = 16777216 := sizeLine_eq
  have hok := Sh.ordok
  have hol : ∀ p ∈ ords, p.length = sz := fun p hp => by simpa using (hok.2.2 p hp).length_eq
  have hpl : places.length ≤ sz := by
    have := hp0.length_eq
    rw [List.length_take, hol _ ho0] at this
    omega
  have hp0' : (ord0.take places.length).Perm places := by
    have := hp0.length_eq
    rw [List.length_take, hol _ ho0] at this
    by_cases hm : m0 ≤ sz
    · have e : places.length = m0 := by omega
      rw [e]
      exact hp0
    · have e : ord0.take m0 = ord0 := List.take_of_length_le (by rw [hol _ ho0]; omega)
      have e2 : ord0.take places.length = ord0 := List.take_of_length_le (by rw [hol _ ho0]; omega)
      rw [e] at hp0
      rw [e2]
      exact hp0
  simp [w_Shelf_found, startD]
  have ews : D.tup ((places.map nKey).map kD) = tupN places := by
    rw [List.map_map]
    rfl
  refine ⟨_, places.map nKey, ews.symm, rfl, _, ⟨_, lstD_loc hth⟩, fun ep => ?_⟩
  rw [zipK_new hnd (by simp [getP]), List.nil_append]
  have htd : (S ++ [O.dct ep ((places.zip (things.map Th.d)).map fun p => (natD p.1, p.2))])[S.length]? = some (.dct ep ((places.zip (things.map Th.d)).map fun p => (natD p.1, p.2))) := get_new
  have y1 : Le S (S ++ [O.dct ep ((places.zip (things.map Th.d)).map fun p => (natD p.1, p.2))]) := Le.app _ _
  have tpk : plainK ((places.zip (things.map Th.d)).map fun p => (natD p.1, p.2)) := fun p hp => by
    obtain ⟨q, _, rfl⟩ := List.mem_map.mp hp
    rfl
  have hSl : S.length ≤ S.length := Nat.le_refl _
  generalize hg : S.length = td at htd ⊢
  generalize S ++ [O.dct ep ((places.zip (things.map Th.d)).map fun p => (natD p.1, p.2))] = S1 at htd y1 ⊢
  refine ⟨_, y1 _ _ Sh.obj, _, rfl, .inl ⟨_, _, lstD_loc (y1 _ _ Sh.by_), ?_⟩⟩
  rw [enumD_map]
  refine forGo_run (fun items τ S' => ∃ (done rest : List (List Nat × Nat)) (v4 v5 v6 v7 v8 : Option D), ords.zipIdx = done ++ rest ∧ items = rest.map (fun p => D.tup [.int (p.2 : Nat), tupN p.1]) ∧ τ = [some (.loc o), some (tupN places), some (.loc th), some (.loc td), v4, v5, v6, v7, v8] ∧
      (∀ p ∈ done, ¬ (p.1.take places.length).Perm places) ∧ Le S1 S') ⟨[], _, _, _, _, _, _, rfl, rfl, rfl, by simp, Le.refl _⟩ ?_ ?_
  · rintro τ S' ⟨done, rest, v4, v5, v6, v7, v8, e1, e2, rfl, e3, e4⟩
    refine ⟨e4 _ _ (y1 _ _ Sh.by_), ?_⟩
    have e' : rest = [] := by simpa using e2.symm
    subst e'
    rw [List.append_nil] at e1
    obtain ⟨j, hj⟩ := List.mem_iff_getElem?.mp ho0
    exact absurd hp0' (e3 (ord0, j) (by rw [← e1]; exact List.mem_zipIdx_iff_getElem?.mpr hj))
  · rintro d rr τ S' N ⟨done, rest, v4, v5, v6, v7, v8, e1, e2, rfl, e3, e4⟩ hN
    refine ⟨e4 _ _ (y1 _ _ Sh.by_), ?_⟩
    cases rest with
    | nil => cases e2
    | cons p rest =>
    simp only [List.map_cons, List.cons.injEq] at e2
    obtain ⟨rfl, rfl⟩ := e2
    have hpz : ords[p.2]? = some p.1 := List.mem_zipIdx_iff_getElem?.mp (by rw [e1]; simp)
    have hpo := hok.2.2 _ (List.mem_of_getElem? hpz)
    simp [tupN]
    have em : cutD (p.1.map natD) none (some (places.length : Int)) = (p.1.take places.length).map natD := by
      rw [cutD_to (by omega), Int.toNat_natCast, List.map_take]
    rw [em]
    refine ⟨srt_nats _, fun ys hp1 hw1 => ⟨srt_nats _, fun zs hp2 hw2 => ?_⟩⟩
    obtain ⟨u, hu, rfl⟩ := perm_lift hp1 rfl
    obtain ⟨v, hv, rfl⟩ := perm_lift hp2 rfl
    rw [eqD_lsts get2a get2b (nats_plain _ _) (nats_plain _ _)]
    have y2 : Le S1 (S' ++ [O.lst (u.map natD), O.lst (v.map natD)]) := e4.trans (Le.app _ _)
    have il : ∀ {a b : List Nat}, a.map natD = b.map natD → a = b := fun e => (List.map_inj_right fun x y e => natD_inj e).mp e
    generalize S' ++ [O.lst (u.map natD), O.lst (v.map natD)] = S2 at y2 ⊢
    have hpn : (p.1.take places.length).length ≤ sizeLine := by
      rw [List.length_take]
      have := hok.1
      omega
    by_cases hpp : (p.1.take places.length).Perm places
    · have euv : u = v := srt_uniq (hu.trans (hpp.trans hv.symm)) (nat_le hw1) (nat_le hw2)
      refine .inr ⟨by simp [euv], ?_⟩
      refine lc_over natD (fun i => (tellF places things i).d) (Le S2) (Le.refl _) (fun _ _ => trivial) hpn (fun i S3 N3 hi hS hN3 => ?_) fun S3 hS3 => ?_
      · simp [wipeD]
        rw [dIx_P ((y2.trans hS) _ _ htd) tpk rfl]
        exact ⟨_, getP_tell hln (hpp.mem_iff.mp hi), hN3 S3 hS⟩
      · refine ⟨_, seqD_loc get_new, by omega, ?_⟩
        have y3 : Le S (S3 ++ [O.lst ((p.1.take places.length).map fun i => (tellF places things i).d)]) := ((y1.trans y2).trans hS3).trans (Le.app _ _)
        have ek : D.tup [D.int (p.2 : Nat), D.tup ((p.1.take places.length).map fun i => (tellF places things i).d)] = dK (p.2, (p.1.take places.length).map (tellF places things)) := by
          simp [dK, List.map_map]
          rfl
        rw [ek]
        generalize S3 ++ [O.lst ((p.1.take places.length).map fun i => (tellF places things i).d)] = S4 at y3 ⊢
        obtain ⟨epb, hbg⟩ := Sh.bg_.here
        refine ⟨_, y3 _ _ Sh.obj, _, rfl, isDct_loc (y3 _ _ hbg), ?_⟩
        have hkey : ∀ r ∈ kept, ((p.2, (p.1.take places.length).map (tellF places things)) ∈ keysOf sz ords r ↔ places.map (rAt r) = things) := fun r hr => key_rows hok hpz hpp hnd hln (Sh.ok r hr).2
        have kok : okK (p.2, (p.1.take places.length).map (tellF places things)) := by
          refine ⟨by have := hok.1; simp; omega, fun t ht => ?_⟩
          obtain ⟨i, hi, rfl⟩ := List.mem_map.mp ht
          have : tellF places things i ∈ places.map (tellF places things) := List.mem_map_of_mem (hpp.mem_iff.mp hi)
          rw [tellF_map hnd hln] at this
          exact hot _ this
        generalize (p.2, (p.1.take places.length).map (tellF places things)) = k at hkey kok ⊢
        rw [dGet2_P (get_app (y3 _ _ hbg)) (kE_plain fun e he => (Sh.bg_.ok e he).1) (plain_mono _ (by decide) (dK_plain kok))]
        by_cases he : ∃ e ∈ ent, e.1 = k
        · obtain ⟨e, he, rfl⟩ := he
          rw [getP_kE_some he Sh.bg_.keys]
          obtain ⟨ep2, hin⟩ := Sh.bg_.ins e he
          show dListA [D.loc e.2.1] _ _
          rw [dListA_dct (get_app (y3 _ _ hin))]
          have ekl : (e.2.2.map kR).map (·.1) = e.2.2.map dR := by rw [List.map_map]; rfl
          rw [ekl]
          refine ⟨_, e.2.2, rfl, ⟨get_new, (Sh.bg_.ok e he).2.2.1, (Sh.bg_.ok e he).2.2.2⟩, fun vs m S5 hsr hrs hml y5 => ?_⟩
          refine h vs m S5 (hsr.congr fun r => ?_) hrs (by have := y3.len; simp at hml; omega) ((y3.trans ((Le.app _ _).trans (Le.app _ _))).trans y5)
          rw [Sh.bg_.rows e he r, List.mem_filter, decide_eq_true_iff]
          exact ⟨fun ⟨g1, g2⟩ => ⟨g1, (hkey r g1).mp g2⟩, fun ⟨g1, g2⟩ => ⟨g1, (hkey r g1).mpr g2⟩⟩
        · have hno : ∀ e ∈ ent, e.1 ≠ k := fun e h z => he ⟨e, h, z⟩
          rw [getP_kE_none hno]
          show dListA [D.loc S4.length] _ _
          rw [dListA_dct get_new]
          refine ⟨_, [], rfl, ⟨get_new, by simp, by simp⟩, fun vs m S5 hsr hrs hml y5 => ?_⟩
          refine h vs m S5 (hsr.congr fun r => ?_) hrs (by have := y3.len; simp at hml; omega) ((y3.trans ((Le.app _ _).trans (Le.app _ _))).trans y5)
          rw [List.mem_filter, decide_eq_true_iff]
          constructor
          · intro hr
            cases hr
          · rintro ⟨g1, g2⟩
            obtain ⟨e, h1, h2⟩ := Sh.bg_.all k r ⟨g1, (hkey r g1).mpr g2⟩
            exact absurd h2 (hno e h1)
    · have huv : ¬ u = v := fun e => hpp (hu.symm.trans (e ▸ hv))
      refine .inl ⟨by simpa using fun e => huv (il e), hN _ _ ⟨done ++ [p], rest, _, _, _, _, _, by rw [e1]; simp, rfl, rfl, fun q hq => ?_, y2⟩⟩
      rcases List.mem_append.mp hq with hq | hq
      · exact e3 q hq
      · rw [List.mem_singleton.mp hq]
        exact hpp

/-! the shelves of the law -/
structure ShRec where
  o : Nat
  b : Nat
  kd : Nat
  bg : Nat
  ln : Nat
  kl : Nat
  sz : Nat
  ords : List (List Nat)
  kept : List (List Th)
  ent : List En
def dS (a : ShRec) : D := .tup [.loc a.o, .int (a.sz : Nat), .loc a.ln, .loc a.kl]
def Own (a : ShRec) : List Nat := a.kl :: a.kd :: a.bg :: a.ent.map (·.2.1)
structure RecOk (n sm sh : Nat) (a : ShRec) (S : Sto) : Prop where
  shelf : ShAt a.o a.b a.kd a.bg a.sz a.ords a.kept a.ent S
  held : S[a.kl]? = some (.lst (a.kept.map dR))
  lines : S[a.ln]? = some (.lst (a.ords.map tupN))
  some_ : a.ords ≠ []
  ne : a.kl ≠ sm ∧ a.kl ≠ sh ∧ a.kl ≠ a.b ∧ a.kl ≠ a.ln
  len : a.kept.length ≤ n ∧ a.ent.length ≤ 72 * n
structure Recs (n sm sh : Nat) (recs : List ShRec) (S : Sto) : Prop where
  here : S[sh]? = some (.lst (recs.map dS))
  ok : ∀ (i : Nat) (a : ShRec), recs[i]? = some a → RecOk n sm sh a S
  dis : ∀ (i j : Nat) (a c : ShRec), recs[i]? = some a → recs[j]? = some c → i ≠ j → ∀ x ∈ Own a, x ∉ Own c ∧ x ≠ c.o ∧ x ≠ c.b ∧ x ≠ c.ln
theorem RecOk.lt {n sm sh : Nat} {a : ShRec} {S : Sto} (h : RecOk n sm sh a S) : (∀ x ∈ Own a, x < S.length) ∧ a.o < S.length ∧ a.b < S.length ∧ a.ln < S.length := by
  obtain ⟨ep, h1⟩ := h.shelf.kept_
  obtain ⟨ep2, h2⟩ := h.shelf.bg_.here
  refine ⟨fun x hx => ?_, lt_of_get h.shelf.obj, lt_of_get h.shelf.by_, lt_of_get h.lines⟩
  unfold Own at hx
  rcases List.mem_cons.mp hx with rfl | hx
  · exact lt_of_get h.held
  rcases List.mem_cons.mp hx with rfl | hx
  · exact lt_of_get h1
  rcases List.mem_cons.mp hx with rfl | hx
  · exact lt_of_get h2
  obtain ⟨e, he, rfl⟩ := List.mem_map.mp hx
  obtain ⟨ep3, h3⟩ := h.shelf.bg_.ins e he
  exact lt_of_get h3
theorem ShAt.mono {o b kd bg sz : Nat} {ords : List (List Nat)} {kept : List (List Th)} {ent : List En} {S S' : Sto} (h : ShAt o b kd bg sz ords kept ent S) (k : ∀ (j : Nat) (u : O), (j = o ∨ j = b ∨ j = kd ∨ j = bg ∨ ∃ e ∈ ent, j = e.2.1) → S[j]? = some u → S'[j]? = some u) : ShAt o b kd bg sz ords kept ent S' := by
  obtain ⟨ep, h1⟩ := h.kept_
  exact ⟨k _ _ (.inl rfl) h.obj, k _ _ (.inr (.inl rfl)) h.by_, ⟨ep, k _ _ (.inr (.inr (.inl rfl))) h1⟩, h.bg_.mono fun j u hj hh => k j u (.inr (.inr (.inr hj))) hh, h.ne, h.ordok, h.ok, h.nd, h.len⟩
theorem RecOk.mono {n m sm sh : Nat} {a : ShRec} {S S' : Sto} (h : RecOk n sm sh a S) (hnm : n ≤ m) (k : ∀ (j : Nat) (u : O), (j = a.o ∨ j = a.b ∨ j = a.ln ∨ j ∈ Own a) → S[j]? = some u → S'[j]? = some u) : RecOk m sm sh a S' := by
  refine ⟨h.shelf.mono fun j u hj hh => k j u ?_ hh, k _ _ (.inr (.inr (.inr List.mem_cons_self))) h.held, k _ _ (.inr (.inr (.inl rfl))) h.lines, h.some_, h.ne, ⟨Nat.le_trans h.len.1 hnm, Nat.le_trans h.len.2 (Nat.mul_le_mul_left _ hnm)⟩⟩
  rcases hj with h1 | h1 | h1 | h1 | ⟨e, he, h1⟩
  · exact .inl h1
  · exact .inr (.inl h1)
  · exact .inr (.inr (.inr (by rw [h1]; simp [Own])))
  · exact .inr (.inr (.inr (by rw [h1]; simp [Own])))
  · refine .inr (.inr (.inr ?_))
    rw [h1]
    unfold Own
    exact List.mem_cons_of_mem _ (List.mem_cons_of_mem _ (List.mem_cons_of_mem _ (List.mem_map_of_mem he)))
theorem Recs.le {n m sm sh : Nat} {recs : List ShRec} {S S' : Sto} (h : Recs n sm sh recs S) (hnm : n ≤ m) (y : Le S S') : Recs m sm sh recs S' :=
  ⟨y _ _ h.here, fun i a e => (h.ok i a e).mono hnm fun j u _ hh => y j u hh, h.dis⟩
/-- one shelf is another one -/
theorem Recs.step {n m sm sh : Nat} {recs : List ShRec} {S S' : Sto} (h : Recs n sm sh recs S) (hnm : n ≤ m) {i : Nat} {a a' : ShRec} (hi : recs[i]? = some a) (ha : RecOk m sm sh a' S') (he : dS a' = dS a ∧ a'.o = a.o ∧ a'.b = a.b ∧ a'.ln = a.ln) (hl : S.length ≤ S'.length)
    (hk : ∀ (j : Nat) (u : O), j ∉ Own a → S[j]? = some u → S'[j]? = some u) (ho : ∀ x ∈ Own a', x ∈ Own a ∨ S.length ≤ x) : Recs m sm sh (recs.set i a') S' := by
  have hil := (List.getElem?_eq_some_iff.mp hi).1
  have ra := h.ok i a hi
  have at_ : ∀ (j : Nat) (c : ShRec), (recs.set i a')[j]? = some c → (j = i ∧ c = a') ∨ (j ≠ i ∧ recs[j]? = some c) := fun j c e => by
    by_cases q : j = i
    · subst q
      rw [List.getElem?_set_self hil] at e
      exact .inl ⟨rfl, (Option.some.inj e).symm⟩
    · rw [List.getElem?_set_ne (Ne.symm q)] at e
      exact .inr ⟨q, e⟩
  refine ⟨?_, fun j c e => ?_, fun j1 j2 c1 c2 e1 e2 hne x hx => ?_⟩
  · have es : (recs.set i a').map dS = recs.map dS := by
      rw [List.map_set, he.1]
      refine List.ext_getElem? fun j => ?_
      by_cases q : j = i
      · subst q
        rw [List.getElem?_set_self (by simpa using hil), List.getElem?_map, hi]
        rfl
      · rw [List.getElem?_set_ne (Ne.symm q)]
    rw [es]
    refine hk _ _ (fun z => ?_) h.here
    unfold Own at z
    obtain ⟨ep, h1⟩ := ra.shelf.kept_
    rcases List.mem_cons.mp z with z | z
    · exact ra.ne.2.1 z.symm
    rcases List.mem_cons.mp z with z | z
    · exact dct_ne h.here h1 z
    obtain ⟨n1, n2⟩ := ra.shelf.bg_.ne_lst h.here
    rcases List.mem_cons.mp z with z | z
    · exact n1 z
    obtain ⟨e, he2, z⟩ := List.mem_map.mp z
    exact n2 e he2 z.symm
  · rcases at_ j c e with ⟨rfl, rfl⟩ | ⟨q, e⟩
    · exact ha
    · refine (h.ok j c e).mono hnm fun x u hx hh => hk x u (fun z => ?_) hh
      obtain ⟨d1, d2, d3, d4⟩ := h.dis i j a c hi e (Ne.symm q) x z
      rcases hx with hx | hx | hx | hx
      · exact d2 hx
      · exact d3 hx
      · exact d4 hx
      · exact d1 hx
  · rcases at_ j1 c1 e1 with ⟨rfl, rfl⟩ | ⟨q1, f1⟩
    · rcases at_ j2 c2 e2 with ⟨q2, rfl⟩ | ⟨q2, e2⟩
      · exact absurd q2.symm hne
      · rcases ho x hx with hx | hx
        · exact h.dis _ _ a c2 hi e2 hne x hx
        · obtain ⟨l1, l2, l3, l4⟩ := (h.ok j2 c2 e2).lt
          exact ⟨fun z => by have := l1 x z; omega, by omega, by omega, by omega⟩
    · rcases at_ j2 c2 e2 with ⟨rfl, rfl⟩ | ⟨q2, e2⟩
      · obtain ⟨d1, d2, d3, d4⟩ := h.dis j1 _ c1 a f1 hi hne x hx
        refine ⟨fun z => ?_, by rw [he.2.1]; exact d2, by rw [he.2.2.1]; exact d3, by rw [he.2.2.2]; exact d4⟩
        rcases ho x z with z | z
        · exact d1 z
        · have := (h.ok j1 c1 f1).lt.1 x hx
          omega
      · exact h.dis j1 j2 c1 c2 f1 e2 hne x hx
/-- one shelf more -/
theorem Recs.snoc {n sm sh : Nat} {recs : List ShRec} {S S' : Sto} (h : Recs n sm sh recs S) {a : ShRec} (hs : S'[sh]? = some (.lst ((recs ++ [a]).map dS))) (ha : RecOk n sm sh a S') (hk : ∀ (j : Nat) (u : O), j ≠ sh → S[j]? = some u → S'[j]? = some u)
    (hsh : ∀ c ∈ recs, sh ≠ c.b ∧ sh ≠ c.ln) (hn : (∀ x ∈ Own a, S.length ≤ x) ∧ S.length ≤ a.o ∧ S.length ≤ a.b ∧ S.length ≤ a.ln) : Recs n sm sh (recs ++ [a]) S' := by
  have at_ : ∀ (j : Nat) (c : ShRec), (recs ++ [a])[j]? = some c → recs[j]? = some c ∨ (j = recs.length ∧ c = a) := fun j c e => by
    rcases Nat.lt_or_ge j recs.length with q | q
    · rw [List.getElem?_append_left q] at e
      exact .inl e
    · have h2 := (List.getElem?_eq_some_iff.mp e).1
      simp at h2
      have : j = recs.length := by omega
      subst this
      rw [List.getElem?_concat_length] at e
      exact .inr ⟨rfl, (Option.some.inj e).symm⟩
  refine ⟨hs, fun j c e => ?_, fun j1 j2 c1 c2 e1 e2 hne x hx => ?_⟩
  · rcases at_ j c e with e | ⟨_, rfl⟩
    · have rc := h.ok j c e
      refine rc.mono (Nat.le_refl _) fun x u hx hh => hk x u (fun z => ?_) hh
      subst z
      have hh2 := h.here
      rcases hx with hx | hx | hx | hx
      · rw [hx, rc.shelf.obj] at hh2
        cases hh2
      · exact (hsh c (List.mem_of_getElem? e)).1 hx
      · exact (hsh c (List.mem_of_getElem? e)).2 hx
      · unfold Own at hx
        obtain ⟨ep, h1⟩ := rc.shelf.kept_
        rcases List.mem_cons.mp hx with z | z
        · exact rc.ne.2.1 z.symm
        rcases List.mem_cons.mp z with z | z
        · exact dct_ne h.here h1 z
        obtain ⟨n1, n2⟩ := rc.shelf.bg_.ne_lst h.here
        rcases List.mem_cons.mp z with z | z
        · exact n1 z
        obtain ⟨e, he2, z⟩ := List.mem_map.mp z
        exact n2 e he2 z.symm
    · exact ha
  · rcases at_ j1 c1 e1 with e1 | ⟨q1, rfl⟩
    · have l1 := (h.ok j1 c1 e1).lt.1 x hx
      rcases at_ j2 c2 e2 with e2 | ⟨_, rfl⟩
      · exact h.dis j1 j2 c1 c2 e1 e2 hne x hx
      · exact ⟨fun z => by have := hn.1 x z; omega, by omega, by omega, by omega⟩
    · have := hn.1 x hx
      rcases at_ j2 c2 e2 with e2 | ⟨q2, rfl⟩
      · obtain ⟨l1, l2, l3, l4⟩ := (h.ok j2 c2 e2).lt
        exact ⟨fun z => by have := l1 x z; omega, by omega, by omega, by omega⟩
      · exact absurd (q1.trans q2.symm) hne

theorem recs_upd {n sm sh i : Nat} {recs : List ShRec} {a : ShRec} {S S' : Sto} {kept' : List (List Th)} {ent' : List En} (hr : Recs n sm sh recs S) (hi : recs[i]? = some a) (Sh : ShAt a.o a.b a.kd a.bg a.sz a.ords kept' ent' S') (K : ShKeep a.kd a.bg 72 a.ent ent' S S') (hk : kept'.length ≤ a.kept.length + 1) :
    Recs (n + 1) sm sh (recs.set i { a with kept := kept', ent := ent' }) (S'.set a.kl (.lst (kept'.map dR))) ∧ (∀ xs, S[sm]? = some (.lst xs) → (S'.set a.kl (.lst (kept'.map dR)))[sm]? = some (.lst xs)) ∧ S'[a.kl]? = some (.lst (a.kept.map dR)) := by
  have R := hr.ok i a hi
  obtain ⟨ep, hkd⟩ := R.shelf.kept_
  obtain ⟨q1, q2⟩ := R.shelf.bg_.ne_lst R.held
  have q0 := dct_ne R.held hkd
  have held' := K.keep _ _ q0 q1 q2 R.held
  have hko : a.o ≠ a.kl := fun z => by
    have := R.shelf.obj
    rw [z, R.held] at this
    cases this
  have Sh' : ShAt a.o a.b a.kd a.bg a.sz a.ords kept' ent' (S'.set a.kl (.lst (kept'.map dR))) := by
    obtain ⟨ep', hkd'⟩ := Sh.kept_
    obtain ⟨z1, z2⟩ := Sh.bg_.ne_lst held'
    refine Sh.mono fun j u hj hh => ?_
    rw [List.getElem?_set_ne (fun z => ?_)]
    · exact hh
    · subst z
      rcases hj with h1 | h1 | h1 | h1 | ⟨e, he, h1⟩
      · exact hko h1.symm
      · exact R.ne.2.2.1 h1
      · exact dct_ne held' hkd' h1
      · exact z1 h1
      · exact z2 e he h1
  have fr : ∀ (j : Nat) (u : O), j ∉ Own a → S[j]? = some u → (S'.set a.kl (.lst (kept'.map dR)))[j]? = some u := fun j u hj hh => by
    unfold Own at hj
    simp only [List.mem_cons, not_or] at hj
    rw [List.getElem?_set_ne (Ne.symm hj.1)]
    exact K.keep j u hj.2.1 hj.2.2.1 (fun e he z => hj.2.2.2 (z ▸ List.mem_map_of_mem he)) hh
  refine ⟨hr.step (a' := { a with kept := kept', ent := ent' }) (Nat.le_succ n) hi ⟨Sh', get_set held', fr _ _ (fun z => ?_) R.lines, R.some_, R.ne, ?_⟩ ⟨rfl, rfl, rfl, rfl⟩ (by simpa using K.le) fr fun x hx => ?_, fun xs hs => ?_, held'⟩
  · unfold Own at z
    rcases List.mem_cons.mp z with z | z
    · exact R.ne.2.2.2 z.symm
    rcases List.mem_cons.mp z with z | z
    · exact dct_ne R.lines hkd z
    obtain ⟨n1, n2⟩ := R.shelf.bg_.ne_lst R.lines
    rcases List.mem_cons.mp z with z | z
    · exact n1 z
    obtain ⟨e, he2, z⟩ := List.mem_map.mp z
    exact n2 e he2 z.symm
  · have := R.len
    have := K.len
    exact ⟨by simp only; omega, by simp only; omega⟩
  · unfold Own at hx ⊢
    rcases List.mem_cons.mp hx with hx | hx
    · exact .inl (by rw [hx]; simp)
    rcases List.mem_cons.mp hx with hx | hx
    · exact .inl (by rw [hx]; simp)
    rcases List.mem_cons.mp hx with hx | hx
    · exact .inl (by rw [hx]; simp)
    obtain ⟨e, he, rfl⟩ := List.mem_map.mp hx
    rcases K.new e he with ⟨e2, h1, h2⟩ | h1
    · refine .inl ?_
      rw [h2]
      exact List.mem_cons_of_mem _ (List.mem_cons_of_mem _ (List.mem_cons_of_mem _ (List.mem_map_of_mem h1)))
    · exact .inr h1
  · obtain ⟨z1, z2⟩ := R.shelf.bg_.ne_lst hs
    rw [List.getElem?_set_ne R.ne.1]
    exact K.keep _ _ (dct_ne hs hkd) z1 z2 hs
theorem le_gr {l : Nat} {S0 S S' : Sto} (y : Le S0 S) (hl : S0.length ≤ l) (g : Gr l S S') : Le S0 S' := fun j o hh => g.get (y _ _ hh) (by have := lt_of_get hh; omega)

def w_f2 (sp_Shelf_found : DSp) (sp_law_told : DSp) (sp_law_sorted : DSp) : WS :=
  (wSeq (wAsg (wLc (wiAny (wVar 8)) (wgName 15) wYes (wOp dIx (wVar 9) (wVar 15)) [15]) (wgName 10))
  (wSeq (wAsg (wLc (wiAny (wVar 6)) (wgName 16) (wTest (wOp dEq (wLc (wiAny (wVar 8)) (wgName 15) wYes (wOp dIx (wVar 16) (wVar 15)) [15]) (wVar 10))) (wVar 16) [16]) (wgName 11))
  (wSeq (wFor (wiRange1 (wCons (wC (.int 2)) wNil)) (wgName 12)
    (wSeq (wAsg (wCB dListA (wCons (wVar 10) wNil)) (wgName 13))
  (wSeq (wAsg (wMeth "Shelf" "found" sp_Shelf_found (wVar 3) (wCons (wVar 8) (wCons (wVar 13) wNil))) (wgName 14))
  (wSeq (wIfS (wOr (wNot (wTruth (wCall sp_law_told (wCons (wVar 14) (wCons (wCall sp_law_sorted (wCons (wVar 11) wNil)) wNil))))) (wTest (wOp dNe (wVar 13) (wVar 10))))
    (wRet (wC (.bl false)))
    wSkip)
  (wDrop (wMt0 "list" dClear (wVar 14)))))))
  (wRet (wC (.bl true))))))
theorem shF_no2 {sz b kd bg : Nat} {m : Str} (h1 : m ≠ "many") (h2 : m ≠ "by") (h3 : m ≠ "kept") (h4 : m ≠ "beginnings") : ∀ (a : Str) (d : D), (a, d) ∈ shF sz b kd bg → ¬m = a := by
  intro a d h
  simp [shF] at h
  rcases h with ⟨h, _⟩ | ⟨h, _⟩ | ⟨h, _⟩ | ⟨h, _⟩ <;> (rw [h]; assumption)
theorem rAt_ix {r : List Th} {i : Nat} (h : i < r.length) {S : Sto} {N : DQ} (q : N (rAt r i).d S) : dIx (dR r) (natD i) S N := by
  simp [dR, natD, atI_nn]
  refine ⟨_, ⟨_, List.getElem?_eq_getElem h, rfl⟩, ?_⟩
  unfold rAt at q
  rw [List.getElem?_eq_getElem h] at q
  exact q
theorem ths_plain {ts : List Th} (h : ∀ t ∈ ts, okT 3 t) : plainsD 100 (ts.map Th.d) = true := ts_plain h (by decide)
theorem rAt_ok {r : List Th} (h : okR r) {i : Nat} (hi : i < r.length) : okT 3 (rAt r i) := by
  unfold rAt
  rw [List.getElem?_eq_getElem hi]
  exact h.2 _ (List.getElem_mem _)
theorem f2_ok {R : DQ} {a0 a1 a2 a4 a5 a7 v10 v11 v12 v13 v14 v15 v16 : Option D} {n sm sh : Nat} {a : ShRec} {u : List Nat} {r : List Th} {S : Sto} (Ra : RecOk n sm sh a S) (hn : n ≤ 100) (or : okR r) (lr : r.length = a.sz) (hu : u.Nodup) (hul : ∀ i ∈ u, i < a.sz) (hul2 : u.length ≤ 8) (hup : ∃ ord ∈ a.ords, ∃ m, (ord.take m).Perm u)
    (h : ∀ S', Le S S' → R (.bl true) S') :
    w_f2 S_Shelf_found S_law_told S_law_sorted (endsD R) [a0, a1, a2, some (.loc a.o), a4, a5, some (.loc a.kl), a7, some (tupN u), some (dR r), v10, v11, v12, v13, v14, v15, v16] S := by
  have hsl : sizeLine = 16777216 := sizeLine_eq
  have hlen := Ra.len.1
  simp [w_f2, tupN]
  refine lc_over natD (fun i => (rAt r i).d) (Le S) (Le.refl _) (fun _ _ => trivial) (by omega) (fun i S' N hi hS hN => ?_) fun S1 hS1 => ?_
  · simp [wipeD]
    exact rAt_ix (by rw [lr]; exact hul i hi) (hN S' hS)
  have eth : u.map (fun i => (rAt r i).d) = (u.map (rAt r)).map Th.d := by rw [List.map_map]; rfl
  rw [eth]
  have hth : (S1 ++ [O.lst ((u.map (rAt r)).map Th.d)])[S1.length]? = some (.lst ((u.map (rAt r)).map Th.d)) := get_new
  have y1 : Le S (S1 ++ [O.lst ((u.map (rAt r)).map Th.d)]) := hS1.trans (Le.app _ _)
  have hot : ∀ t ∈ u.map (rAt r), okT 3 t := fun t ht => by
    obtain ⟨i, hi, rfl⟩ := List.mem_map.mp ht
    exact rAt_ok or (by rw [lr]; exact hul i hi)
  have hthl : u.length = (u.map (rAt r)).length := by simp
  generalize u.map (rAt r) = things at hth y1 hot hthl ⊢
  generalize S1.length = tg at hth ⊢
  generalize S1 ++ [O.lst (things.map Th.d)] = S2 at hth y1 ⊢
  refine ⟨_, _, itemsD_loc (y1 _ _ Ra.held), ?_⟩
  refine lc_filt dR dR (fun one => decide (u.map (rAt one) = things)) (Le S2) (Le.refl _) (fun _ y => y _ _ (y1 _ _ Ra.held)) (by omega) (fun one S' K1 K2 ho hS k1 k2 => ?_) fun S3 hS3 => ?_
  · have oo := Ra.shelf.ok one ho
    simp [wipeD]
    refine lc_over natD (fun i => (rAt one i).d) (Le S') (Le.refl _) (fun _ _ => trivial) (by omega) (fun i S4 N hi hS4 hN => ?_) fun S4 hS4 => ?_
    · simp [wipeD]
      exact rAt_ix (by rw [oo.2]; exact hul i hi) (hN S4 hS4)
    · have e1 : u.map (fun i => (rAt one i).d) = (u.map (rAt one)).map Th.d := by rw [List.map_map]; rfl
      rw [e1]
      have hoo : ∀ t ∈ u.map (rAt one), okT 3 t := fun t ht => by
        obtain ⟨i, hi, rfl⟩ := List.mem_map.mp ht
        exact rAt_ok oo.1 (by rw [oo.2]; exact hul i hi)
      rw [eqD_lsts get_new (get_app ((hS.trans hS4) _ _ hth)) (ths_plain hoo) (ths_plain hot)]
      have y4 : Le S2 (S4 ++ [O.lst ((u.map (rAt one)).map Th.d)]) := (hS.trans hS4).trans (Le.app _ _)
      by_cases e : u.map (rAt one) = things
      · have e2 : (u.map (rAt one)).map Th.d = things.map Th.d := by rw [e]
        exact .inr ⟨by simp [e2], k1 (by simp [e]) _ y4⟩
      · have e2 : ¬ (u.map (rAt one)).map Th.d = things.map Th.d := fun z => e (map_d_inj z)
        exact .inl ⟨by rw [decide_eq_false e2], k2 (by simp [e]) _ y4⟩
  have hdu : (S3 ++ [O.lst ((a.kept.filter fun one => decide (u.map (rAt one) = things)).map dR)])[S3.length]? = some (.lst ((a.kept.filter fun one => decide (u.map (rAt one) = things)).map dR)) := get_new
  have y3 : Le S2 (S3 ++ [O.lst ((a.kept.filter fun one => decide (u.map (rAt one) = things)).map dR)]) := hS3.trans (Le.app _ _)
  have hdl : (a.kept.filter fun one => decide (u.map (rAt one) = things)).length ≤ 900 := by
    have := List.length_filter_le (fun one => decide (u.map (rAt one) = things)) a.kept
    omega
  have hdk : ∀ x ∈ a.kept.filter fun one => decide (u.map (rAt one) = things), okR x ∧ x.length = a.sz := fun x hx => Ra.shelf.ok x (List.mem_filter.mp hx).1
  have hdn : (a.kept.filter fun one => decide (u.map (rAt one) = things)).Nodup := Ra.shelf.nd.sublist List.filter_sublist
  generalize S3.length = dl at hdu ⊢
  generalize S3 ++ [O.lst ((a.kept.filter fun one => decide (u.map (rAt one) = things)).map dR)] = S5 at hdu y3 ⊢
  refine for_keep (fun τ S' => (∃ v12 v13 v14, τ = [a0, a1, a2, some (.loc a.o), a4, a5, some (.loc a.kl), a7, some (tupN u), some (dR r), some (.loc tg), some (.loc dl), v12, v13, v14, v15, v16]) ∧ Le S5 S') ⟨⟨_, _, _, rfl⟩, Le.refl _⟩ (fun _ _ _ => trivial) ?_ ?_
  · rintro τ S' ⟨⟨v12, v13, v14, rfl⟩, y⟩
    simp
    exact h S' ((y1.trans y3).trans y)
  · rintro d τ S' N hd ⟨⟨v12, v13, v14, rfl⟩, y⟩ hN
    have hth' := (y3.trans y) _ _ hth
    simp
    rw [dListA_loc hth']
    have y6 : Le S5 (S' ++ [O.lst (things.map Th.d)]) := y.trans (Le.app _ _)
    have hh6 : (S' ++ [O.lst (things.map Th.d)])[S'.length]? = some (.lst (things.map Th.d)) := get_new
    generalize S'.length = hd6 at hh6 ⊢
    generalize S' ++ [O.lst (things.map Th.d)] = S6 at hh6 y6 ⊢
    have R6 := Ra.mono (Nat.le_refl n) fun j o _ hh => ((y1.trans y3).trans y6) j o hh
    refine ⟨⟨_, R6.shelf.obj, shF_no2 (by decide +kernel) (by decide +kernel) (by decide +kernel) (by decide +kernel)⟩, a.o, a.b, a.kd, a.bg, a.sz, hd6, a.ords, a.kept, a.ent, u, things, rfl, R6.shelf, hh6, hu, hthl, hot, hup, fun vs m S7 hsr hrs hml y7 => ?_⟩
    refine ⟨dl, _, a.sz, rfl, ⟨(y6.trans y7) _ _ hdu, fun x hx => (hdk x hx).1, hdl⟩, hdn, fun x hx => (hdk x hx).2, fun us q S8 hsr2 hrs2 hql y8 => ?_⟩
    refine ⟨m, q, vs, us, rfl, hrs.le y8, hrs2, fun S9 y9 => ?_⟩
    have e : vs = us := SR_uniq (fun x hx => (hdk x hx).1) hsr hsr2
    have y69 : Le S6 S9 := y7.trans (y8.trans y9)
    simp [e]
    have hm9 := (y8.trans y9) _ _ hrs.1
    refine .inr ⟨by rw [eqD_lsts (y69 _ _ hh6) ((y6.trans y69) _ _ (y3 _ _ hth)) (ths_plain hot) (ths_plain hot)]; simp, tyD_loc hm9, ?_⟩
    rw [dClear_loc hm9]
    refine hN _ _ ⟨⟨_, _, _, rfl⟩, fun j o hh => ?_⟩
    have := lt_of_get (y6 _ _ hh)
    rw [List.getElem?_set_ne (by omega)]
    exact (y6.trans y69) _ _ hh
def S_law_found_right : DSp := fun ds S R => ∃ (l sm sh n : Nat) (some_ : List Th) (a : ShRec) (S0 : Sto), ds = [.loc l, dS a, .loc sm] ∧ RecOk n sm sh a S0 ∧ n ≤ 100 ∧ S0[sm]? = some (.lst (some_.map Th.d)) ∧ some_ ≠ [] ∧ some_.length ≤ 100 ∧ (∀ t ∈ some_, okT 3 t) ∧ (sm ≠ l ∧ a.o ≠ l ∧ a.b ≠ l ∧ a.ln ≠ l ∧ l ∉ Own a) ∧ LeX l S0 S ∧ LAt l S ∧ ∀ S', LeX l S0 S' → LAt l S' → R (.bl true) S'
theorem w_fr_cut (a1 a2 a3 a4 a5 : DSp) : w_law_found_right a1 a2 a3 a4 a5 =
  (wSeq (wAsg (wVar 1) (wgTup 4 (wgCons (wgName 3) (wgCons (wgName 4) (wgCons (wgName 5) (wgCons (wgName 6) wgNil))))))
  (wSeq (wAsg (wOp dIx (wVar 5) (wCall a1 (wCons (wVar 0) (wCons (wCB dLen (wCons (wVar 5) wNil)) wNil)))) (wgName 7))
  (wSeq (wAsg (wCB dTuple (wCons (wCB dSortD (wCons (wSl dSl (wVar 7) wNoPart (wPart (wCall a1 (wCons (wVar 0) (wCons (wOp dAdd (wVar 4) (wC (.int 1))) wNil))))) wNil)) wNil)) (wgName 8))
  (wSeq (wAsg (wCall a2 (wCons (wVar 0) (wCons (wVar 4) (wCons (wVar 2) wNil)))) (wgName 9))
  (wSeq (wIfS (wAnd (wTest (wOp dNeE (wVar 6) (wLst wNil))) (wTest (wOp dGt (wCall a1 (wCons (wVar 0) (wCons (wC (.int 4)) wNil))) (wC (.int 0)))))
    (wAsg (wOp dIx (wVar 6) (wCall a1 (wCons (wVar 0) (wCons (wCB dLen (wCons (wVar 6) wNil)) wNil)))) (wgName 9))
    wSkip)
  (w_f2 a3 a4 a5)))))) := rfl
theorem sem_law_found_right : ∀ ds S R, S_law_found_right ds S R → ds.length = 3 ∧ w_law_found_right S_law_pick S_law_row S_Shelf_found S_law_told S_law_sorted (endsD R) (startD 17 ds) S := by
  rintro ds S R ⟨l, sm, sh, n, some_, a, S0, rfl, R0, hn, hsm, hsn, hsl0, hst, ⟨q1, q2, q3, q4, q5⟩, y0, hl, h⟩
  have q6 : a.kl ≠ l := fun z => q5 (by rw [← z]; simp [Own])
  refine ⟨rfl, ?_⟩
  have hsl : sizeLine = 16777216 := sizeLine_eq
  have hpw : (2:Nat) ^ 200 = 1606938044258990275541962092341162602522202993782792835301376 := by decide
  rw [w_fr_cut]
  have hord := R0.shelf.ordok
  have hop : 0 < a.ords.length := List.length_pos_iff.mpr R0.some_
  have hlen := R0.len.1
  have hsz := hord.1
  have hol := hord.2.1
  simp [startD, dS]
  rw [dLen_loc (y0.2 _ _ q4 R0.lines)]
  simp
  refine ⟨l, _, rfl, by omega, by omega, hl, fun n1 S1 a1 b1 g1 => ?_⟩
  have y1 := y0.trans g1.x
  obtain ⟨y, hy, hm⟩ := atI_mem (m := n1) (xs := a.ords.map tupN) a1 (by simpa using b1)
  simp only [dIx_loc (y1.2 _ _ q4 R0.lines), hy]
  obtain ⟨ord, ho, rfl⟩ := List.mem_map.mp hm
  have hop2 := hord.2.2 _ ho
  have hordl : ord.length = a.sz := by simpa using hop2.length_eq
  refine ⟨_, rfl, ?_⟩
  refine ⟨l, _, rfl, by omega, by omega, g1.at_, fun n2 S2 a2 b2 g2 => ?_⟩
  have y2 := y1.trans g2.x
  refine ⟨n2, rfl, ?_⟩
  have e : cutD (ord.map natD) none (some n2) = (ord.take n2.toNat).map natD := by rw [cutD_to (by omega), List.map_take]
  have hs : ∀ K : DQ, K (.tup ((ord.take n2.toNat).map natD)) S2 → dSl (tupN ord) none (some n2) S2 K := fun K hk => by
    simp [tupN, e]
    simpa using hk
  refine hs _ ?_
  refine ⟨(ord.take n2.toNat).map natD, rfl, srt_nats _, fun ys hp hw => ?_⟩
  obtain ⟨u, hu, rfl⟩ := perm_lift hp rfl
  refine ⟨u.map natD, seqD_loc get_new, ?_⟩
  have ondp : ord.Nodup := hop2.nodup_iff.mpr List.nodup_range
  have hun : u.Nodup := hu.nodup_iff.mpr (ondp.sublist (List.take_sublist _ _))
  have hul : ∀ i ∈ u, i < a.sz := fun i hi => List.mem_range.mp (hop2.mem_iff.mp (List.mem_of_mem_take (hu.mem_iff.mp hi)))
  have hul2 : u.length ≤ 8 := by
    rw [hu.length_eq, List.length_take]
    omega
  have y3 : LeX l S0 (S2 ++ [O.lst (u.map natD)]) := y2.trans ((Le.app _ _).x l)
  have l3 : LAt l (S2 ++ [O.lst (u.map natD)]) := g2.at_.le (Le.app _ _)
  generalize S2 ++ [O.lst (u.map natD)] = S3 at y3 l3 ⊢
  have fin : ∀ (r' : List Th) (S' : Sto), LeX l S0 S' → LAt l S' → okR r' → r'.length = a.sz → w_f2 S_Shelf_found S_law_told S_law_sorted (endsD R)
      [some (.loc l), some (.tup [.loc a.o, .int (a.sz : Nat), .loc a.ln, .loc a.kl]), some (.loc sm), some (.loc a.o), some (.int (a.sz : Nat)), some (.loc a.ln), some (.loc a.kl), some (tupN ord), some (.tup (u.map natD)), some (dR r'), none, none, none, none, none, none, none] S' := fun r' S' y l' or lr =>
    f2_ok (R0.mono (Nat.le_refl n) fun j o hj hh => y.2 j o (fun z => by
      subst z
      rcases hj with z | z | z | z
      · exact q2 z.symm
      · exact q3 z.symm
      · exact q4 z.symm
      · exact q5 z) hh) hn or lr hun hul hul2 ⟨ord, ho, n2.toNat, hu.symm⟩ fun S'' y' => h S'' (y.trans (y'.x l)) (l'.le y')
  refine ⟨l, a.sz, sm, some_, rfl, hsz, l3, y3.2 _ _ q1 hsm, q1, hsn, hsl0, hst, fun r S4 or lr g4 => ?_⟩
  have y4 := y3.trans g4.x
  have k5 := get_app (T := [O.lst []]) (y4.2 _ _ q6 R0.held)
  have y5 : LeX l S0 (S4 ++ [O.lst []]) := y4.trans ((Le.app _ _).x l)
  have l5 : LAt l (S4 ++ [O.lst []]) := g4.at_.le (Le.app _ _)
  show dNeE _ _ _ _
  rw [dNeE_loc k5 get_new]
  generalize S4 ++ [O.lst []] = S5 at k5 y5 l5 ⊢
  cases hk : a.kept with
  | nil => exact .inl ⟨by simp, fin r S5 y5 l5 or lr⟩
  | cons x xs =>
    have hpos : 0 < a.kept.length := by rw [hk]; simp
    refine .inr ⟨by simp, l, 4, rfl, by decide, by decide, l5, fun n6 S6 a6 b6 g6 => ?_⟩
    have y6 := y5.trans g6.x
    by_cases h6 : 0 < n6
    · simp [h6]
      rw [dLen_loc (y6.2 _ _ q6 R0.held)]
      simp only [List.length_map]
      refine ⟨l, _, rfl, by omega, by omega, g6.at_, fun n7 S7 a7 b7 g7 => ?_⟩
      have y7 := y6.trans g7.x
      obtain ⟨y, hy2, hm2⟩ := atI_mem (m := n7) (xs := a.kept.map dR) a7 (by simpa using b7)
      simp only [dIx_loc (y7.2 _ _ q6 R0.held), hy2]
      obtain ⟨r2, hr2, rfl⟩ := List.mem_map.mp hm2
      exact ⟨_, rfl, fin r2 S7 y7 g7.at_ (R0.shelf.ok r2 hr2).1 (R0.shelf.ok r2 hr2).2⟩
    · simp [h6]
      exact fin r S6 y6 g6.at_ or lr

theorem lst_one {l : Nat} {S : Sto} {xs ys : List D} (h1 : S[l]? = some (.lst xs)) (h2 : S[l]? = some (.lst ys)) : xs = ys := by
  rw [h1] at h2
  cases h2
  rfl
theorem RecOk.ne_l {n sm sh l : Nat} {a : ShRec} {S : Sto} (R : RecOk n sm sh a S) (hl : LAt l S) : a.o ≠ l ∧ a.b ≠ l ∧ a.ln ≠ l ∧ l ∉ Own a := by
  obtain ⟨x, y, e, _⟩ := hl
  have tup_ne : ∀ {α : Type} (f : α → D) (xs : List α), (∀ a, ∃ ds, f a = .tup ds) → xs.map f ≠ [.int x, .int y] := fun f xs hf h => by
    cases xs with
    | nil => simp at h
    | cons a xs =>
      obtain ⟨ds, e⟩ := hf a
      rw [List.map_cons, e] at h
      simp at h
  have hT : ∀ p : List Nat, ∃ ds, tupN p = .tup ds := fun p => ⟨_, rfl⟩
  obtain ⟨ep, h1⟩ := R.shelf.kept_
  refine ⟨fun z => ?_, fun z => ?_, fun z => ?_, fun z => ?_⟩
  · have := R.shelf.obj
    rw [z, e] at this
    cases this
  · have := R.shelf.by_
    rw [z] at this
    exact tup_ne tupN _ hT (lst_one this e)
  · have := R.lines
    rw [z] at this
    exact tup_ne tupN _ hT (lst_one this e)
  · unfold Own at z
    rcases List.mem_cons.mp z with z | z
    · have := R.held
      rw [← z] at this
      exact tup_ne dR _ (fun r => ⟨_, rfl⟩) (lst_one this e)
    rcases List.mem_cons.mp z with z | z
    · exact dct_ne e h1 z
    obtain ⟨n1, n2⟩ := R.shelf.bg_.ne_lst e
    rcases List.mem_cons.mp z with z | z
    · exact n1 z
    obtain ⟨e2, he2, z⟩ := List.mem_map.mp z
    exact n2 e2 he2 z.symm
theorem Recs.lex {n sm sh l : Nat} {recs : List ShRec} {S S' : Sto} (h : Recs n sm sh recs S) (hl : LAt l S) (hn : recs ≠ []) (y : LeX l S S') : Recs n sm sh recs S' := by
  refine ⟨y.2 _ _ (fun z => ?_) h.here, fun i a e => (h.ok i a e).mono (Nat.le_refl n) fun j u hj hh => y.2 j u (fun z => ?_) hh, h.dis⟩
  · obtain ⟨x, w, e, _⟩ := hl
    have h1 := h.here
    rw [z] at h1
    have := lst_one h1 e
    cases recs with
    | nil => exact hn rfl
    | cons a recs => simp [dS] at this
  · obtain ⟨q1, q2, q3, q4⟩ := (h.ok i a e).ne_l hl
    subst z
    rcases hj with z | z | z | z
    · exact q1 z.symm
    · exact q2 z.symm
    · exact q3 z.symm
    · exact q4 z
def w_p3 (sp_law_found_right : DSp) : WS := (wIfS (wNot (wTruth (wCB dAll (wCons (wLc (wiAny (wVar 4)) (wgName 10) wYes (wCall sp_law_found_right (wCons (wVar 1) (wCons (wVar 10) (wCons (wVar 3) wNil)))) [10]) wNil))))
    (wRet (wC (.bl false)))
    wSkip)
theorem p3_ok {T : DEnds} {a0 a2 a5 a6 a7 a8 a9 a10 : Option D} {n sm sh l : Nat} {some_ : List Th} {recs : List ShRec} {S : Sto} (hr : Recs n sm sh recs S) (hrn : recs ≠ []) (hrl : recs.length ≤ 2) (hn : n ≤ 100) (hl : LAt l S) (hs : S[sm]? = some (.lst (some_.map Th.d))) (hsl' : sm ≠ l) (hsn : some_ ≠ []) (hsl0 : some_.length ≤ 100) (hst : ∀ t ∈ some_, okT 3 t)
    (h : ∀ S', Recs n sm sh recs S' → S'[sm]? = some (.lst (some_.map Th.d)) → T.nx [a0, some (.loc l), a2, some (.loc sm), some (.loc sh), a5, a6, a7, a8, a9, a10] S') :
    w_p3 S_law_found_right T [a0, some (.loc l), a2, some (.loc sm), some (.loc sh), a5, a6, a7, a8, a9, a10] S := by
  have hsl : sizeLine = 16777216 := sizeLine_eq
  simp [w_p3]
  refine ⟨_, _, itemsD_loc hr.here, ?_⟩
  refine lc_over dS (fun _ => .bl true) (fun S' => LeX l S S' ∧ LAt l S') ⟨LeX.refl l S, hl⟩ (fun S' ⟨y, _⟩ => (hr.lex hl hrn y).here) (by omega) (fun a S' N ha ⟨y, hl'⟩ hN => ?_) fun S' ⟨y, hl'⟩ => ?_
  · obtain ⟨i, hi⟩ := List.mem_iff_getElem?.mp ha
    have R := hr.ok i a hi
    obtain ⟨q1, q2, q3, q4⟩ := R.ne_l hl
    simp [wipeD]
    exact ⟨l, sm, sh, n, some_, a, S, rfl, R, hn, hs, hsn, hsl0, hst, ⟨hsl', q1, q2, q3, q4⟩, y, hl', fun S2 y2 hl2 => hN S2 ⟨y2, hl2⟩⟩
  · have y2 : LeX l S (S' ++ [O.lst (recs.map fun _ => D.bl true)]) := y.trans ((Le.app _ _).x l)
    refine ⟨_, ⟨_, lstD_loc get_new⟩, _, blsD_mapf (f := fun _ => true) recs, .inr ⟨by simp, ?_⟩⟩
    exact h _ (hr.lex hl hrn y2) (y2.2 _ _ hsl' hs)
def w_p2 (sp_law_pick : DSp) (sp_Shelf_take : DSp) (sp_Shelf_add : DSp) : WS :=
  (wIfS (wAnd (wTest (wOp dIn (wVar 9) (wVar 8))) (wTest (wOp dEq (wCall sp_law_pick (wCons (wVar 1) (wCons (wC (.int 2)) wNil))) (wC (.int 0)))))
    (wSeq (wDrop (wMeth "Shelf" "take" sp_Shelf_take (wVar 7) (wCons (wVar 9) wNil)))
  (wDrop (wMt "list" dRemove (wVar 8) (wCons (wVar 9) wNil))))
    (wSeq (wDrop (wMeth "Shelf" "add" sp_Shelf_add (wVar 7) (wCons (wVar 9) wNil)))
  (wIfS (wTest (wOp dNotIn (wVar 9) (wVar 8)))
    (wDrop (wMt "list" dAppend (wVar 8) (wCons (wVar 9) wNil)))
    wSkip)))
theorem p2_ok {T : DEnds} {a0 a2 a3 a4 a5 a6 a10 : Option D} {n sm sh i l : Nat} {recs : List ShRec} {a : ShRec} {r : List Th} {S0 S : Sto} (hr : Recs n sm sh recs S0) (hi : recs[i]? = some a) (hn : n ≤ 100) (hl : LAt l S) (hll : S0.length ≤ l) (y : Le S0 S) (or : okR r) (lr : r.length = a.sz)
    (h : ∀ (a' : ShRec) S', Recs (n + 1) sm sh (recs.set i a') S' → LAt l S' → (∀ xs, S0[sm]? = some (.lst xs) → S'[sm]? = some (.lst xs)) → T.nx [a0, some (.loc l), a2, a3, a4, a5, a6, some (.loc a.o), some (.loc a.kl), some (dR r), a10] S') :
    w_p2 S_law_pick S_Shelf_take S_Shelf_add T [a0, some (.loc l), a2, a3, a4, a5, a6, some (.loc a.o), some (.loc a.kl), some (dR r), a10] S := by
  have hsl : sizeLine = 16777216 := sizeLine_eq
  have hdn : ∀ rs : List (List Th), decide (dR r ∈ rs.map dR) = decide (r ∈ rs) := fun rs => by
    rw [decide_eq_decide]
    exact ⟨fun hm => by
      obtain ⟨x, hx, e⟩ := List.mem_map.mp hm
      exact dR_inj e ▸ hx, fun hm => List.mem_map_of_mem hm⟩
  have same : recs.set i a = recs := by
    refine List.ext_getElem? fun j => ?_
    by_cases q : j = i
    · subst q
      rw [List.getElem?_set_self (List.getElem?_eq_some_iff.mp hi).1, hi]
    · rw [List.getElem?_set_ne (Ne.symm q)]
  have p9 : plainD 100 (dR r) = true := plain_mono _ (by decide) (dR_plain or)
  have okk0 : ∀ x ∈ a.kept, okR x := fun x hx => ((hr.ok i a hi).shelf.ok x hx).1
  -- l stays what it is
  have lat : ∀ {S1 S2 : Sto} {kept' : List (List Th)} {ent' : List En}, Le S0 S1 → LAt l S1 → ShKeep a.kd a.bg 72 a.ent ent' S1 S2 → LAt l (S2.set a.kl (.lst (kept'.map dR))) := fun {S1 S2 kept' ent'} y1 l1 K => by
    have R := (hr.le (Nat.le_refl n) y1).ok i a hi
    obtain ⟨x, w, e, z⟩ := l1
    obtain ⟨ep, h1⟩ := R.shelf.kept_
    obtain ⟨n1, n2⟩ := R.shelf.bg_.ne_lst e
    have hkl := lt_of_get (hr.ok i a hi).held
    refine ⟨x, w, ?_, z⟩
    rw [List.getElem?_set_ne (by omega)]
    exact K.keep _ _ (dct_ne e h1) n1 n2 e
  -- the row goes in
  have add : ∀ S1, Le S0 S1 → LAt l S1 → (∃ fs, S1[a.o]? = some (.ins "Shelf" fs) ∧ ∀ (x : Str) (b : D), (x, b) ∈ fs → ¬Str.ofString "add" = x) ∧ S_Shelf_add [D.loc a.o, dR r] S1 fun d S1 => dNotIn (dR r) (D.loc a.kl) S1 fun d_1 S1 =>
      d_1 = D.bl false ∧ T.nx [a0, some (.loc l), a2, a3, a4, a5, a6, some (.loc a.o), some (.loc a.kl), some (dR r), a10] S1 ∨
      d_1 = D.bl true ∧ tyD S1 "list" (D.loc a.kl) ∧ dAppend (D.loc a.kl) [dR r] S1 fun x S1 => T.nx [a0, some (.loc l), a2, a3, a4, a5, a6, some (.loc a.o), some (.loc a.kl), some (dR r), a10] S1 := fun S1 y1 l1 => by
    have hr1 := hr.le (Nat.le_refl n) y1
    have R := hr1.ok i a hi
    have hlen := R.len
    refine ⟨⟨_, R.shelf.obj, shF_no2 (by decide +kernel) (by decide +kernel) (by decide +kernel) (by decide +kernel)⟩, a.o, a.b, a.kd, a.bg, a.sz, a.ords, a.kept, a.ent, r, rfl, R.shelf, or, lr, by omega, by omega, fun hin => ?_, fun hin S2 ent' Sh2 K2 => ?_⟩
    · refine dNotIn_plain (seqD_loc R.held) p9 (rs_plain okk0) ?_
      rw [hdn]
      refine .inl ⟨by simp [hin], h a S1 ?_ l1 fun xs e => y1 _ _ e⟩
      rw [same]
      exact hr1.le (Nat.le_succ n) (Le.refl _)
    · obtain ⟨u1, u2, u3⟩ := recs_upd (kept' := a.kept ++ [r]) hr1 hi Sh2 K2 (by simp)
      refine dNotIn_plain (seqD_loc u3) p9 (rs_plain okk0) ?_
      rw [hdn]
      refine .inr ⟨by simp [hin], tyD_loc u3, ?_⟩
      rw [dAppend_loc u3]
      have em : a.kept.map dR ++ [dR r] = (a.kept ++ [r]).map dR := by simp
      rw [em]
      exact ⟨by rw [List.length_map]; omega, h _ _ u1 (lat y1 l1 K2) fun xs hs => u2 xs (y1 _ _ hs)⟩
  simp [w_p2]
  have R := (hr.le (Nat.le_refl n) y).ok i a hi
  refine dIn_plain (seqD_loc R.held) p9 (rs_plain okk0) ?_
  rw [hdn]
  by_cases hin : r ∈ a.kept
  · refine .inr ⟨by simp [hin], l, 2, rfl, by decide, by decide, hl, fun n1 S1 a1 b1 g1 => ?_⟩
    have y1 := le_gr y hll g1
    have hr1 := hr.le (Nat.le_refl n) y1
    have R := hr1.ok i a hi
    have hlen := R.len
    by_cases h0 : n1 = 0
    · refine .inr ⟨by simp [h0], ⟨_, R.shelf.obj, shF_no2 (by decide +kernel) (by decide +kernel) (by decide +kernel) (by decide +kernel)⟩, a.o, a.b, a.kd, a.bg, a.sz, a.ords, a.kept, a.ent, r, rfl, R.shelf, or, lr, by omega, by omega, fun hno => absurd hin hno, fun _ S2 ent' Sh2 K2 => ?_⟩
      obtain ⟨u1, u2, u3⟩ := recs_upd (kept' := a.kept.erase r) hr1 hi Sh2 K2 (by have := List.length_erase_le (a := r) (l := a.kept); omega)
      obtain ⟨j0, hj0, hjr⟩ := List.getElem_of_mem hin
      have hjg : a.kept[j0]? = some r := by rw [List.getElem?_eq_getElem hj0, hjr]
      refine ⟨tyD_loc u3, dRemove_loc u3 (plain_mono _ (by decide) (dR_plain or)) (fun x hx => ?_) (j := j0) (by rw [List.getElem?_map, hjg]; rfl) (fun m hm e => ?_) ?_⟩
      · obtain ⟨z, hz2, rfl⟩ := List.mem_map.mp hx
        exact plain_mono _ (by decide) (dR_plain (okk0 z hz2))
      · rw [List.getElem?_map] at e
        cases e2 : a.kept[m]? with
        | none => rw [e2] at e; cases e
        | some z =>
          rw [e2] at e
          have e3 : dR z = dR r := Option.some.inj e
          rw [dR_inj e3] at e2
          have := (List.getElem?_inj (by omega) R.shelf.nd).mp (hjg.trans e2.symm)
          omega
      · rw [← map_erase, erase_at R.shelf.nd hjg]
        exact h _ _ u1 (lat y1 g1.at_ K2) fun xs hs => u2 xs (y1 _ _ hs)
    · exact .inl ⟨by simp [h0], add S1 y1 g1.at_⟩
  · exact .inl ⟨by simp [hin], add S y hl⟩
def w_mk (sp_Shelf___init__ : DSp) : WS := (wDrop (wMt "list" dAppend (wVar 4) (wCons (wTup (wCons (wMake "Shelf" sp_Shelf___init__ (wCons (wVar 5) (wCons (wCB dListA (wCons (wVar 6) wNil)) wNil))) (wCons (wVar 5) (wCons (wVar 6) (wCons (wLst wNil) wNil))))) wNil)))
theorem mk_ok {T : DEnds} {a0 a1 a2 a3 a7 a8 a9 a10 : Option D} {sm sh ln sz : Nat} {ords : List (List Nat)} {recs : List ShRec} {S0 S : Sto} (hr : Recs 0 sm sh recs S0) (hb : ∀ c ∈ recs, sh ≠ c.b ∧ sh ≠ c.ln) (hrl : recs.length ≤ 2) {xs : List D} (hs : S0[sm]? = some (.lst xs)) (hsm : sm ≠ sh) (y : Le S0 S) (hln : S[ln]? = some (.lst (ords.map tupN))) (hlnl : S0.length ≤ ln) (hok : OrdOk sz ords) (hon : ords ≠ [])
    (h : ∀ (a : ShRec) S', Recs 0 sm sh (recs ++ [a]) S' → (∀ c ∈ recs ++ [a], sh ≠ c.b ∧ sh ≠ c.ln) → S'[sm]? = some (.lst xs) → T.nx [a0, a1, a2, a3, some (.loc sh), some (.int (sz : Nat)), some (.loc ln), a7, a8, a9, a10] S') :
    w_mk S_Shelf___init__ T [a0, a1, a2, a3, some (.loc sh), some (.int (sz : Nat)), some (.loc ln), a7, a8, a9, a10] S := by
  have hsl : sizeLine = 16777216 := sizeLine_eq
  have hz4 : 4 ≤ sizeLine := by omega
  have hl3 := y.len
  have hshl := lt_of_get hr.here
  have hsml := lt_of_get hs
  have hlS := lt_of_get hln
  have hok2 := hok.2.1
  simp [w_mk]
  rw [dListA_loc hln]
  have sh3 := y _ _ hr.here
  refine ⟨tyD_loc sh3, ?_⟩
  simp
  refine ⟨S.length + 1, S.length, sz, ords, rfl, get2b, get2a, hok, fun b kd bg S5 Sh5 hb5 hkd5 hbg5 hle5 hfr5 => ?_⟩
  simp at hb5 hkd5 hbg5 hle5
  refine ⟨rfl, hz4, ?_⟩
  have y35 : Le S S5 := fun j o hh => hfr5 j o (by have := lt_of_get hh; omega) (get_app hh)
  have y5 := y.trans y35
  have sh5 := get_app (T := [O.lst []]) (y5 _ _ hr.here)
  have hbl5 := lt_of_get Sh5.by_
  rw [dAppend_loc sh5]
  refine ⟨by rw [List.length_map]; omega, ?_⟩
  let a : ShRec := ⟨S.length + 1, b, kd, bg, ln, S5.length, sz, ords, [], []⟩
  have ea : D.tup [D.loc (S.length + 1), D.int (sz : Nat), D.loc ln, D.loc S5.length] = dS a := rfl
  have em : recs.map dS ++ [dS a] = (recs ++ [a]).map dS := by simp
  rw [ea, em]
  have k7 : ∀ (j : Nat) (u : O), j ≠ sh → (S5 ++ [O.lst []])[j]? = some u → ((S5 ++ [O.lst []]).set sh (.lst ((recs ++ [a]).map dS)))[j]? = some u := fun j u hj hh => by rw [List.getElem?_set_ne (Ne.symm hj)]; exact hh
  have sh7 := get_set (o' := O.lst ((recs ++ [a]).map dS)) sh5
  have kl7 := k7 _ _ (show S5.length ≠ sh by omega) get_new
  have ShF : ShAt a.o a.b a.kd a.bg a.sz a.ords a.kept a.ent ((S5 ++ [O.lst []]).set sh (.lst ((recs ++ [a]).map dS))) := Sh5.mono fun j u hj hh => by
    have hj2 : S.length < j := by
      rcases hj with h1 | h1 | h1 | h1 | ⟨e, he, _⟩
      · have h2 : j = S.length + 1 := h1
        omega
      · have h2 : j = b := h1
        omega
      · have h2 : j = kd := h1
        omega
      · have h2 : j = bg := h1
        omega
      · cases he
    exact k7 _ _ (by omega) (get_app hh)
  have ln7 := k7 _ _ (show ln ≠ sh by omega) (get_app (y35 _ _ hln))
  refine h a _ (hr.snoc sh7 ⟨ShF, kl7, ln7, hon, ⟨show S5.length ≠ sm by omega, show S5.length ≠ sh by omega, show S5.length ≠ b by omega, show S5.length ≠ ln by omega⟩, by simp [a]⟩ (fun j u hj hh => k7 _ _ hj (get_app (y5 _ _ hh))) hb ⟨fun x hx => ?_, show S0.length ≤ S.length + 1 by omega, show S0.length ≤ b by omega, hlnl⟩) (fun c hc => ?_) (k7 _ _ hsm (get_app (y5 _ _ hs)))
  · simp [Own, a] at hx
    rcases hx with rfl | rfl | rfl <;> omega
  · rcases List.mem_append.mp hc with hc | hc
    · exact hb c hc
    · rw [List.mem_singleton.mp hc]
      exact ⟨show sh ≠ b by omega, show sh ≠ ln by omega⟩
def w_new (sp_law_left : DSp) (sp_law_pick : DSp) (sp_law_orders_drawn : DSp) (sp_Shelf___init__ : DSp) : WS :=
    (wSeq (wAsg (wCall sp_law_left (wCons (wVar 0) (wCons (wVar 2) wNil))) (wgName 1))
  (wSeq (wAsg (wOp dIx (wLst (wCons (wC (.int 0)) (wCons (wC (.int 1)) (wCons (wC (.int 2)) (wCons (wC (.int 3)) (wCons (wC (.int 4)) (wCons (wC (.int 8)) wNil))))))) (wCall sp_law_pick (wCons (wVar 1) (wCons (wC (.int 6)) wNil)))) (wgName 5))
  (wSeq (wAsg (wCall sp_law_orders_drawn (wCons (wVar 1) (wCons (wVar 5) wNil))) (wgName 6))
  (wSeq (wIfS (wTest (wOp dEq (wVar 6) (wLst wNil)))
    (wAsg (wLst (wCons (wTupRange (wVar 5)) wNil)) (wgName 6))
    wSkip)
  (w_mk sp_Shelf___init__)))))
theorem new_ok {T : DEnds} {ns : List Int} {k : Int} {v1 v5 v6 a7 a8 a9 a10 : Option D} {sm sh : Nat} {recs : List ShRec} {S : Sto} (hr : Recs 0 sm sh recs S) (hb : ∀ c ∈ recs, sh ≠ c.b ∧ sh ≠ c.ln) (hrl : recs.length ≤ 2) (hk : 0 ≤ k ∧ k < 1000000) {xs : List D} (hs : S[sm]? = some (.lst xs)) (hsm : sm ≠ sh)
    (h : ∀ v1 v5 v6 (a : ShRec) S', Recs 0 sm sh (recs ++ [a]) S' → (∀ c ∈ recs ++ [a], sh ≠ c.b ∧ sh ≠ c.ln) → S'[sm]? = some (.lst xs) → T.nx [some (scriptD ns), v1, some (.int k), some (.loc sm), some (.loc sh), v5, v6, a7, a8, a9, a10] S') :
    w_new S_law_left S_law_pick S_law_orders_drawn S_Shelf___init__ T [some (scriptD ns), v1, some (.int k), some (.loc sm), some (.loc sh), v5, v6, a7, a8, a9, a10] S := by
  have hsl : sizeLine = 16777216 := sizeLine_eq
  have hz6 : 6 ≤ sizeLine := by omega
  have hz1 : 1 ≤ sizeLine := by omega
  simp [w_new]
  refine ⟨ns, k, rfl, hk.1, hk.2, fun x1 x2 hx12 => ?_⟩
  have hl0 : LAt S.length (S ++ [.lst [.int x1, .int x2]]) := ⟨_, _, get_new, hx12⟩
  have y0 : Le S (S ++ [.lst [.int x1, .int x2]]) := Le.app _ _
  have hl1 : (S ++ [O.lst [.int x1, .int x2]]).length = S.length + 1 := by simp
  generalize hlg : S.length = l at hl0 hl1 ⊢
  generalize S ++ [O.lst [.int x1, .int x2]] = S1 at hl0 y0 hl1 ⊢
  simp [hz6]
  refine ⟨l, 6, rfl, by decide, by decide, hl0.le (Le.app _ _), fun n2 S2 a2 b2 g2 => ?_⟩
  have hs2 := g2.get (get_new (S := S1)) (hl0.ne (Nat.le_refl _))
  obtain ⟨y, hy, hm⟩ := atI_mem (m := n2) (xs := [D.int 0, D.int 1, D.int 2, D.int 3, D.int 4, D.int 8]) a2 (by simpa using b2)
  simp only [dIx_loc hs2, hy]
  obtain ⟨sz, rfl, hsz⟩ : ∃ j : Nat, y = .int (j : Nat) ∧ j ≤ 8 := by
    simp at hm
    rcases hm with rfl | rfl | rfl | rfl | rfl | rfl
    · exact ⟨0, rfl, by omega⟩
    · exact ⟨1, rfl, by omega⟩
    · exact ⟨2, rfl, by omega⟩
    · exact ⟨3, rfl, by omega⟩
    · exact ⟨4, rfl, by omega⟩
    · exact ⟨8, rfl, by omega⟩
  have y2 : Le S S2 := le_gr (y0.trans (Le.app _ _)) (by omega) g2
  refine ⟨_, rfl, l, sz, rfl, hsz, g2.at_, fun m ords S3 hok hmm hml g3 => ?_⟩
  have y3 : Le S S3 := le_gr y2 (by omega) g3
  have hl12 : S1.length + 1 ≤ S2.length := by simpa using g2.x.1
  have tp : ∀ os : List (List Nat), (∀ o ∈ os, o.Perm (List.range sz)) → plainsD 100 (os.map tupN) = true := fun os ho => plains_of fun d hd => by
    obtain ⟨p, hp, rfl⟩ := List.mem_map.mp hd
    have : p.length = sz := by simpa using (ho p hp).length_eq
    exact tupN_plain (n := 99) (by omega)
  simp
  have y4 : Le S (S3 ++ [O.lst []]) := y3.trans (Le.app _ _)
  have hl23 := g3.x.1
  rw [eqD_lsts (get_app hmm) get_new (tp ords hok.2.2) (by rfl)]
  cases ords with
  | nil =>
    refine .inr ⟨by simp, sz, rfl, by omega, hz1, ?_⟩
    have y5 : Le S (S3 ++ [O.lst [], O.lst [D.tup (rangeD 0 sz)]]) := y3.trans (Le.app _ _)
    have e5 : (S3 ++ [O.lst [], O.lst [D.tup (rangeD 0 sz)]])[S3.length + 1]? = some (.lst ([List.range sz].map tupN)) := by
      rw [rng_nat]
      exact get2b
    have l5 := y3.len
    exact mk_ok hr hb hrl hs hsm y5 e5 (by omega) ⟨hsz, by simp, fun o ho => by rw [List.mem_singleton.mp ho]⟩ (by simp) fun a S' h1 h2 h3 => h _ _ _ a S' h1 h2 h3
  | cons o os =>
    refine .inl ⟨by simp, ?_⟩
    exact mk_ok hr hb hrl hs hsm y4 (get_app hmm) (by omega) hok (by simp) fun a S' h1 h2 h3 => h _ _ _ a S' h1 h2 h3
theorem w_law_cut (a1 a2 a3 a4 a5 a6 a7 a8 a9 : DSp) : w_law a1 a2 a3 a4 a5 a6 a7 a8 a9 =
  (wSeq (wAsg (wCall a1 (wCons (wVar 0) (wCons (wC (.int 2)) wNil))) (wgName 1))
  (wSeq (wAsg (wLc (wiRange1 (wCons (wOp dAdd (wC (.int 2)) (wCall a2 (wCons (wVar 1) (wCons (wC (.int 4)) wNil)))) wNil)) (wgName 2) wYes (wCall a3 (wCons (wVar 1) (wCons (wC (.int 3)) wNil))) [2]) (wgName 3))
  (wSeq (wAsg (wLst wNil) (wgName 4))
  (wSeq (wFor (wiRange1 (wCons (wC (.int 2)) wNil)) (wgName 2) (w_new a1 a2 a4 a5))
  (wSeq (wFor (wiRange2 (wCons (wC (.int 3)) (wCons (wCB dMax2 (wCons (wC (.int 6)) (wCons (wCB dMin2 (wCons (wCB dLen (wCons (wVar 0) wNil)) (wCons (wC (.int 62)) wNil))) wNil))) wNil))) (wgName 2)
    (wSeq (wAsg (wCall a1 (wCons (wVar 0) (wCons (wVar 2) wNil))) (wgName 1))
  (wSeq (wAsg (wOp dIx (wVar 4) (wCall a2 (wCons (wVar 1) (wCons (wC (.int 2)) wNil)))) (wgTup 4 (wgCons (wgName 7) (wgCons (wgName 5) (wgCons (wgName 6) (wgCons (wgName 8) wgNil))))))
  (wSeq (wAsg (wCall a6 (wCons (wVar 1) (wCons (wVar 5) (wCons (wVar 3) wNil)))) (wgName 9))
  (wSeq (w_p2 a2 a7 a8) (w_p3 a9))))))
  (wRet (wC (.bl true)))))))) := rfl
def S_law : DSp := fun ds S R => ∃ ns, ds = [scriptD ns] ∧ ns.length ≤ 63 ∧ ∀ S', R (.bl true) S'
theorem sem_law : ∀ ds S R, S_law ds S R → ds.length = 1 ∧ w_law S_law_left S_law_pick (S_law_thing 8) S_law_orders_drawn S_Shelf___init__ S_law_row S_Shelf_take S_Shelf_add S_law_found_right (endsD R) (startD 11 ds) S := by
  rintro ds S R ⟨ns, rfl, hns, h⟩
  refine ⟨rfl, ?_⟩
  have hsl : sizeLine = 16777216 := sizeLine_eq
  rw [w_law_cut]
  simp [startD]
  refine ⟨ns, 2, rfl, by decide, by decide, fun x1 x2 hx12 => ?_⟩
  have hl0 : LAt S.length (S ++ [.lst [.int x1, .int x2]]) := ⟨_, _, get_new, hx12⟩
  generalize S.length = l at hl0 ⊢
  generalize S ++ [O.lst [.int x1, .int x2]] = S1 at hl0 ⊢
  simp
  refine ⟨l, 4, rfl, by decide, by decide, hl0, fun n2 S2 a2 b2 g2 => ?_⟩
  simp
  refine ⟨by omega, by omega, ?_⟩
  refine lc_map (fun _ y => ∃ t : Th, y = t.d ∧ okT 3 t) (fun S' => LAt l S') g2.at_ (fun _ _ => trivial) (by simp; omega) ?_ ?_
  · intro d S' N hd hl hN
    simp [wipeD]
    exact ⟨l, 3, rfl, by decide, by decide, by decide, hl, fun d S3 ⟨t, ht, e⟩ g => hN _ _ ⟨t, e, ht⟩ g.at_⟩
  · intro ys S3 hl3 hall
    obtain ⟨some_, rfl, hst, hlen⟩ := ths_of hall
    simp at hlen
    simp
    have hl3' : LAt l (S3 ++ [O.lst (some_.map Th.d), O.lst []]) := hl3.le (Le.app _ _)
    have hs3 : (S3 ++ [O.lst (some_.map Th.d), O.lst []])[S3.length]? = some (.lst (some_.map Th.d)) := get2a
    have hh3 : (S3 ++ [O.lst (some_.map Th.d), O.lst []])[S3.length + 1]? = some (.lst (([] : List ShRec).map dS)) := get2b
    have hne : S3.length ≠ S3.length + 1 := by omega
    generalize S3.length + 1 = sh at hh3 hne ⊢
    generalize S3.length = sm at hs3 hne ⊢
    generalize S3 ++ [O.lst (some_.map Th.d), O.lst []] = S4 at hs3 hh3 ⊢
    have hsn : some_ ≠ [] := by
      rintro rfl
      simp at hlen
      omega
    refine forGo_run (fun items τ S' => ∃ v1 v2 v5 v6 recs, τ = [some (scriptD ns), v1, v2, some (.loc sm), some (.loc sh), v5, v6, none, none, none, none] ∧ recs.length + items.length = 2 ∧ (∀ d ∈ items, ∃ i : Int, d = .int i ∧ 0 ≤ i ∧ i < 2) ∧ Recs 0 sm sh recs S' ∧ (∀ c ∈ recs, sh ≠ c.b ∧ sh ≠ c.ln) ∧ S'[sm]? = some (.lst (some_.map Th.d)))
      ⟨_, _, _, _, [], rfl, by simp, fun d hd => by obtain ⟨i, e, h1, h2⟩ := rangeD_mem hd; exact ⟨i, e, h1, by omega⟩, ⟨hh3, by simp, by simp⟩, by simp, hs3⟩ ?_ ?_
    · rintro τ S5 ⟨v1, v2, v5, v6, recs, rfl, e1, _, e2, e3, e4⟩
      refine ⟨trivial, ?_⟩
      have e1' : recs.length = 2 := by simpa using e1
      simp [scriptD]
      refine ⟨by split <;> split <;> omega, by split <;> split <;> omega, ?_⟩
      have hcnt : ((if 6 < if 62 < (ns.length : Int) then 62 else (ns.length : Int) then if 62 < (ns.length : Int) then 62 else (ns.length : Int) else 6) - 3).toNat ≤ 59 := by split <;> split <;> omega
      generalize ((if 6 < if 62 < (ns.length : Int) then 62 else (ns.length : Int) then if 62 < (ns.length : Int) then 62 else (ns.length : Int) else 6) - 3).toNat = cnt at hcnt ⊢
      refine forGo_run (fun items τ S' => ∃ n v1 v2 v5 v6 v7 v8 v9 v10 recs, τ = [some (scriptD ns), v1, v2, some (.loc sm), some (.loc sh), v5, v6, v7, v8, v9, v10] ∧ n + items.length ≤ 59 ∧ recs.length = 2 ∧ (∀ d ∈ items, ∃ i : Int, d = .int i ∧ 0 ≤ i ∧ i < 1000) ∧ Recs n sm sh recs S' ∧ S'[sm]? = some (.lst (some_.map Th.d)))
        ⟨0, _, _, _, _, _, _, _, _, recs, rfl, by simp; omega, e1', fun d hd => by obtain ⟨i, e, h1, h2⟩ := rangeD_mem hd; exact ⟨i, e, by omega, by omega⟩, e2, e4⟩ ?_ ?_
      · rintro τ S6 ⟨n, v1, v2, v5, v6, v7, v8, v9, v10, recs, rfl, f1, f2, f3, f4, f5⟩
        refine ⟨trivial, ?_⟩
        simp
        exact h _
      · rintro d rr τ S6 N ⟨n, v1, v2, v5, v6, v7, v8, v9, v10, recs, rfl, f1, f2, f3, f4, f5⟩ hN
        refine ⟨trivial, ?_⟩
        obtain ⟨i, rfl, i0, i1⟩ := f3 d List.mem_cons_self
        simp only [List.length_cons] at f1
        simp
        refine ⟨ns, i, rfl, i0, by omega, fun x1 x2 hx12 => ?_⟩
        have hl0 : LAt S6.length (S6 ++ [.lst [.int x1, .int x2]]) := ⟨_, _, get_new, hx12⟩
        have y0 : Le S6 (S6 ++ [.lst [.int x1, .int x2]]) := Le.app _ _
        generalize hlg : S6.length = l at hl0 ⊢
        generalize S6 ++ [O.lst [.int x1, .int x2]] = S7 at hl0 y0 ⊢
        simp
        refine ⟨l, 2, rfl, by decide, by decide, hl0, fun n7 S8 a8 b8 g8 => ?_⟩
        have y8 := le_gr y0 (by omega) g8
        have hsh := y8 _ _ f4.here
        obtain ⟨y, hy, hm⟩ := atI_mem (m := n7) (xs := recs.map dS) a8 (by simp; omega)
        simp only [dIx_loc hsh, hy]
        rw [atI_nn a8, List.getElem?_map] at hy
        cases hi : recs[n7.toNat]? with
        | none => rw [hi] at hy; cases hy
        | some a =>
        rw [hi] at hy
        have hy' : dS a = y := Option.some.inj hy
        subst hy'
        have R8 := (f4.le (Nat.le_refl n) y8).ok _ a hi
        refine ⟨_, rfl, ?_⟩
        simp [dS]
        refine ⟨l, a.sz, sm, some_, rfl, R8.shelf.ordok.1, g8.at_, y8 _ _ f5, by have := lt_of_get f5; omega, hsn, by omega, hst, fun r S9 or lr g9 => ?_⟩
        have y9 := le_gr y8 (by omega) g9
        refine p2_ok f4 hi (by omega) g9.at_ (by omega) y9 or lr fun a' S10 hr10 hl10 hs10 => ?_
        have hsm5 := lt_of_get f5
        refine p3_ok hr10 (by intro z; have := congrArg List.length z; simp at this; rw [this] at f2; simp at f2) (by simp; omega) (by omega) hl10 (hs10 _ f5) (by omega) hsn (by omega) hst fun S11 hr11 hs11 => ?_
        exact hN _ _ ⟨n + 1, _, _, _, _, _, _, _, _, recs.set n7.toNat a', rfl, by omega, by simpa using f2, fun d hd => f3 d (List.mem_cons_of_mem _ hd), hr11, hs11⟩
    · rintro d rr τ S5 N ⟨v1, v2, v5, v6, recs, rfl, e1, e0, e2, e3, e4⟩ hN
      refine ⟨trivial, ?_⟩
      obtain ⟨i, rfl, i0, i2⟩ := e0 d List.mem_cons_self
      simp only [List.length_cons] at e1
      refine new_ok e2 e3 (by omega) ⟨i0, by omega⟩ e4 hne fun v1 v5 v6 a S6 hr6 hb6 hs6 => ?_
      exact hN _ _ ⟨_, _, _, _, recs ++ [a], rfl, by simp; omega, fun d hd => e0 d (List.mem_cons_of_mem _ hd), hr6, hb6, hs6⟩

def top (i : Nat) : Stmt := PySem.Challenge.pw_reasonkeep_k46_rows_found.main.body.getD i (.Pass ⟨0, 0, 0, 0⟩)
structure Txt (K : PySem.W.Frag) (mg : Str → Option Value) : Prop where
  b_all : mg "all" = none
  b_dict : mg "dict" = none
  b_enumerate : mg "enumerate" = none
  b_int : mg "int" = none
  b_isinstance : mg "isinstance" = none
  b_len : mg "len" = none
  b_list : mg "list" = none
  b_max : mg "max" = none
  b_min : mg "min" = none
  b_range : mg "range" = none
  b_sorted : mg "sorted" = none
  b_tuple : mg "tuple" = none
  b_zip : mg "zip" = none
  k_Shelf : ClsD K mg "Shelf"
  n_Shelf_beginnings : NoAtD K mg "Shelf" "beginnings"
  n_Shelf_by : NoAtD K mg "Shelf" "by"
  n_Shelf_kept : NoAtD K mg "Shelf" "kept"
  n_Shelf_many : NoAtD K mg "Shelf" "many"
section
variable {P : Program} {w : World} {K : PySem.W.Frag} {mg : Str → Option Value} {base : Heap}
abbrev s_rank : Stmt := top 1
abbrev n_rank : List Str := ["thing", "part"]
theorem sc_rank : FnScope n_rank ["thing"] (defScope s_rank) := ⟨rfl, rfl, rfl, by decide +kernel, rfl, by decide +kernel, by decide +kernel⟩
theorem ok_rank (T : Txt K mg) {f : Addr} {fd : FuncData} (F : Fun K "rank" "rank" s_rank f fd) (hf : mg "rank" = some (.ref f)) (hb : Binds K fd ["thing"] []) {k : Nat} {sp_rank : DSp}
    (G_rank : FnD P w K mg base k "rank" sp_rank) {sp : DSp}
    (sem : ∀ ds S R, sp ds S R → ds.length = 1 ∧ w_rank sp_rank (endsD R) (startD 2 ds) S) : FnD P w K mg base (k + 1) "rank" sp := by
  refine fn_mk (N := n_rank) (ps := ["thing"]) (ws := w_rank sp_rank) F sc_rank hf hb (by decide) (fun ds S R h => (sem ds S R h).1) (fun cdv A outer s H E hr => ?_) (fun ds S R h => (sem ds S R h).2)
  have nd : (n_rank).Nodup := sc_rank.nd
  have hu := room_units hr
  unfold w_rank
  exact (ds_cons (ds_if (dt_truth (de_isi T.b_isinstance rfl T.b_int rfl (by decide +kernel) (de_var 0)))
    (ds_one (ds_ret (de_tup (da_cons de_int (da_cons (de_var 0) da_nil)))))
    ds_nil)
  (ds_one (ds_ret (de_tup (da_cons de_int (da_cons (de_ix (od_ix hu) (de_var 0) de_int) (da_cons (de_callB cd_len T.b_len rfl (by decide +kernel) (da_cons (de_var 0) da_nil)) (da_cons (de_callT cd_tuple T.b_tuple rfl (by decide +kernel) (da_cons (de_lc (own := [("part", 1)]) (g := (gName 1)) (own_name (by decide)) rfl nd (di_any (de_slice sd_any (de_var 0) (do_some de_int) do_none)) (blkOk_by (own := [("part", 1)]) (N := n_rank) (sc := (defScope s_rank)) (by decide +kernel)) (fun _ _ _ _ _ => (pg_nm nd)) (fun _ _ _ _ _ => dts_nil) (fun _ _ _ _ _ => (de_call G_rank (hr.mono (by omega)) rfl (da_cons (de_var 1) da_nil)))) da_nil)) da_nil))))))))
abbrev s_ordered : Stmt := top 2
abbrev n_ordered : List Str := ["things", "found", "thing"]
theorem sc_ordered : FnScope n_ordered ["things"] (defScope s_ordered) := ⟨rfl, rfl, rfl, by decide +kernel, rfl, by decide +kernel, by decide +kernel⟩
theorem ok_ordered (T : Txt K mg) {f : Addr} {fd : FuncData} (F : Fun K "ordered" "ordered" s_ordered f fd) (hf : mg "ordered" = some (.ref f)) (hb : Binds K fd ["things"] []) {k : Nat} {sp_rank : DSp}
    (G_rank : FnD P w K mg base k "rank" sp_rank) {sp : DSp}
    (sem : ∀ ds S R, sp ds S R → ds.length = 1 ∧ w_ordered sp_rank (endsD R) (startD 3 ds) S) : FnD P w K mg base (k + 3) "ordered" sp := by
  refine fn_mk (N := n_ordered) (ps := ["things"]) (ws := w_ordered sp_rank) F sc_ordered hf hb (by decide) (fun ds S R h => (sem ds S R h).1) (fun cdv A outer s H E hr => ?_) (fun ds S R h => (sem ds S R h).2)
  have nd : (n_ordered).Nodup := sc_ordered.nd
  have hu := room_units hr
  unfold w_ordered
  exact (ds_cons (ds_set nd de_dct0)
  (ds_cons (ds_for PassesOwn.never rfl (di_any (de_var 0)) (dg_name nd)
    (ds_one (ds_asg de_bl (dg_sub (de_var 1) (de_var 2) (sd_set hu)))))
  (ds_one (ds_ret (de_sortK G_rank (hr.mono (by omega)) rfl hu T.b_sorted rfl rfl (da_cons (de_var 1) da_nil))))))
abbrev s_sorted_rows : Stmt := top 4
abbrev n_sorted_rows : List Str := ["rows", "made", "row"]
theorem sc_sorted_rows : FnScope n_sorted_rows ["rows"] (defScope s_sorted_rows) := ⟨rfl, rfl, rfl, by decide +kernel, rfl, by decide +kernel, by decide +kernel⟩
theorem ok_sorted_rows (T : Txt K mg) {f : Addr} {fd : FuncData} (F : Fun K "sorted_rows" "sorted_rows" s_sorted_rows f fd) (hf : mg "sorted_rows" = some (.ref f)) (hb : Binds K fd ["rows"] []) {k : Nat} {sp_ordered : DSp}
    (G_ordered : FnD P w K mg base k "ordered" sp_ordered) {sp : DSp}
    (sem : ∀ ds S R, sp ds S R → ds.length = 1 ∧ w_sorted_rows sp_ordered (endsD R) (startD 3 ds) S) : FnD P w K mg base (k + 1) "sorted_rows" sp := by
  refine fn_mk (N := n_sorted_rows) (ps := ["rows"]) (ws := w_sorted_rows sp_ordered) F sc_sorted_rows hf hb (by decide) (fun ds S R h => (sem ds S R h).1) (fun cdv A outer s H E hr => ?_) (fun ds S R h => (sem ds S R h).2)
  have nd : (n_sorted_rows).Nodup := sc_sorted_rows.nd
  have hu := room_units hr
  unfold w_sorted_rows
  exact (ds_one (ds_ret (de_lc (own := [("made", 1)]) (g := (gName 1)) (own_name (by decide)) rfl nd (di_any (de_call G_ordered (hr.mono (by omega)) rfl (da_cons (de_lc (own := [("row", 2)]) (g := (gName 2)) (own_name (by decide)) rfl nd (di_any (de_var 0)) (blkOk_by (own := [("row", 2)]) (N := n_sorted_rows) (sc := (defScope s_sorted_rows)) (by decide +kernel)) (fun _ _ _ _ _ => (pg_nm nd)) (fun _ _ _ _ _ => dts_nil) (fun _ _ _ _ _ => (de_op od_add (de_tup (da_cons de_str da_nil)) (de_var 2)))) da_nil))) (blkOk_by (own := [("made", 1)]) (N := n_sorted_rows) (sc := (defScope s_sorted_rows)) (by decide +kernel)) (fun _ _ _ _ _ => (pg_nm nd)) (fun _ _ _ _ _ => dts_nil) (fun _ _ _ _ _ => (de_slice sd_any (de_var 1) (do_some de_int) do_none)))))
abbrev s_Shelf___init__ : Stmt := inClass (top 5) 0
abbrev n_Shelf___init__ : List Str := ["self", "n", "orders", "order"]
theorem sc_Shelf___init__ : FnScope n_Shelf___init__ ["self", "n", "orders"] (defScope s_Shelf___init__) := ⟨rfl, rfl, rfl, by decide +kernel, rfl, by decide +kernel, by decide +kernel⟩
theorem ok_Shelf___init__ (T : Txt K mg) {C : Addr} {f : Addr} {fd : FuncData} (F : Fun K "__init__" "Shelf.__init__" s_Shelf___init__ f fd) (hC : mg "Shelf" = some (.ref C)) (hm : Mk K C f) (hb : Binds K fd ["self", "n", "orders"] []) {k : Nat} {sp : DSp}
    (sem : ∀ ds S R, sp ds S R → ds.length = 3 ∧ w_Shelf___init__ (endsD R) (startD 4 ds) S) : InD P w K mg base (k + 1) "Shelf" sp := by
  refine in_mk (N := n_Shelf___init__) (ps := ["self", "n", "orders"]) (ws := w_Shelf___init__) F sc_Shelf___init__ hC hm hb (by decide) (fun ds S R h => (sem ds S R h).1) (fun cdv A outer s H E hr => ?_) (fun ds S R h => (sem ds S R h).2)
  have nd : (n_Shelf___init__).Nodup := sc_Shelf___init__.nd
  have hu := room_units hr
  unfold w_Shelf___init__
  exact (ds_cons (ds_fld T.k_Shelf T.n_Shelf_many (de_var 1) (de_var 0))
  (ds_cons (ds_fld T.k_Shelf T.n_Shelf_by (de_lc (own := [("order", 3)]) (g := (gName 3)) (own_name (by decide)) rfl nd (di_any (de_var 2)) (blkOk_by (own := [("order", 3)]) (N := n_Shelf___init__) (sc := (defScope s_Shelf___init__)) (by decide +kernel)) (fun _ _ _ _ _ => (pg_nm nd)) (fun _ _ _ _ _ => dts_nil) (fun _ _ _ _ _ => (de_callT cd_tuple T.b_tuple rfl (by decide +kernel) (da_cons (de_var 3) da_nil)))) (de_var 0))
  (ds_cons (ds_fld T.k_Shelf T.n_Shelf_kept de_dct0 (de_var 0))
  (ds_one (ds_fld T.k_Shelf T.n_Shelf_beginnings de_dct0 (de_var 0))))))
abbrev s_Shelf_keys_of : Stmt := inClass (top 5) 1
abbrev n_Shelf_keys_of : List Str := ["self", "row", "found", "number", "order", "many", "place"]
theorem sc_Shelf_keys_of : FnScope n_Shelf_keys_of ["self", "row"] (defScope s_Shelf_keys_of) := ⟨rfl, rfl, rfl, by decide +kernel, rfl, by decide +kernel, by decide +kernel⟩
theorem ok_Shelf_keys_of (T : Txt K mg) {C : Addr} {f : Addr} {fd : FuncData} (F : Fun K "keys_of" "Shelf.keys_of" s_Shelf_keys_of f fd) (hC : mg "Shelf" = some (.ref C)) (cl : Cls K C) (hm : Meth K C "keys_of" f) (hb : Binds K fd ["self", "row"] []) {k : Nat} {sp : DSp}
    (sem : ∀ ds S R, sp ds S R → ds.length = 2 ∧ w_Shelf_keys_of (endsD R) (startD 7 ds) S) : MeD P w K mg base (k + 1) "Shelf" "keys_of" sp := by
  refine me_mk (N := n_Shelf_keys_of) (ps := ["self", "row"]) (ws := w_Shelf_keys_of) F sc_Shelf_keys_of hC cl hm hb (by decide) (fun ds S R h => (sem ds S R h).1) (fun cdv A outer s H E hr => ?_) (fun ds S R h => (sem ds S R h).2)
  have nd : (n_Shelf_keys_of).Nodup := sc_Shelf_keys_of.nd
  have hu := room_units hr
  unfold w_Shelf_keys_of
  exact (ds_cons (ds_set nd (de_lst da_nil))
  (ds_cons (ds_for PassesOwn.never rfl (di_enumA T.b_enumerate rfl (da_cons (de_fld T.k_Shelf T.n_Shelf_by (de_var 0)) da_nil)) (dg_tup rfl (dgs_cons (dg_name nd) (dgs_cons (dg_name nd) dgs_nil)))
    (ds_one (ds_for PassesOwn.never rfl (di_range1 T.b_range rfl (da_cons (de_op od_add (de_fld T.k_Shelf T.n_Shelf_many (de_var 0)) de_int) da_nil)) (dg_name nd)
    (ds_one (ds_expr (de_mt PySem.F.plainAttrs_list PySem.F.slot_list_append PySem.F.type_list_append md_append (de_var 2) (da_cons (de_tup (da_cons (de_var 3) (da_cons (de_callT cd_tuple T.b_tuple rfl (by decide +kernel) (da_cons (de_lc (own := [("place", 6)]) (g := (gName 6)) (own_name (by decide)) rfl nd (di_any (de_slice sd_any (de_var 4) do_none (do_some (de_var 5)))) (blkOk_by (own := [("place", 6)]) (N := n_Shelf_keys_of) (sc := (defScope s_Shelf_keys_of)) (by decide +kernel)) (fun _ _ _ _ _ => (pg_nm nd)) (fun _ _ _ _ _ => dts_nil) (fun _ _ _ _ _ => (de_ix (od_ix hu) (de_var 1) (de_var 6)))) da_nil)) da_nil))) da_nil)))))))
  (ds_one (ds_ret (de_var 2)))))
abbrev s_Shelf_add : Stmt := inClass (top 5) 2
abbrev n_Shelf_add : List Str := ["self", "row", "key"]
theorem sc_Shelf_add : FnScope n_Shelf_add ["self", "row"] (defScope s_Shelf_add) := ⟨rfl, rfl, rfl, by decide +kernel, rfl, by decide +kernel, by decide +kernel⟩
theorem ok_Shelf_add (T : Txt K mg) {C : Addr} {f : Addr} {fd : FuncData} (F : Fun K "add" "Shelf.add" s_Shelf_add f fd) (hC : mg "Shelf" = some (.ref C)) (cl : Cls K C) (hm : Meth K C "add" f) (hb : Binds K fd ["self", "row"] []) {k : Nat} {sp_Shelf_keys_of : DSp}
    (G_Shelf_keys_of : MeD P w K mg base k "Shelf" "keys_of" sp_Shelf_keys_of) {sp : DSp}
    (sem : ∀ ds S R, sp ds S R → ds.length = 2 ∧ w_Shelf_add sp_Shelf_keys_of (endsD R) (startD 3 ds) S) : MeD P w K mg base (k + 1) "Shelf" "add" sp := by
  refine me_mk (N := n_Shelf_add) (ps := ["self", "row"]) (ws := w_Shelf_add sp_Shelf_keys_of) F sc_Shelf_add hC cl hm hb (by decide) (fun ds S R h => (sem ds S R h).1) (fun cdv A outer s H E hr => ?_) (fun ds S R h => (sem ds S R h).2)
  have nd : (n_Shelf_add).Nodup := sc_Shelf_add.nd
  have hu := room_units hr
  unfold w_Shelf_add
  exact (ds_cons (ds_if (dt_cmp (od_in hu) (de_var 1) (de_fld T.k_Shelf T.n_Shelf_kept (de_var 0)))
    (ds_one (ds_ret de_bl))
    ds_nil)
  (ds_cons (ds_asg de_bl (dg_sub (de_fld T.k_Shelf T.n_Shelf_kept (de_var 0)) (de_var 1) (sd_set hu)))
  (ds_cons (ds_for PassesOwn.never rfl (di_any (de_meth G_Shelf_keys_of (hr.mono (by omega)) (de_var 0) (da_cons (de_var 1) da_nil))) (dg_name nd)
    (ds_one (ds_asg de_bl (dg_sub (de_mtD PySem.F.slot_dict_setdefault PySem.F.type_dict_setdefault (md_setdef hu) (de_fld T.k_Shelf T.n_Shelf_beginnings (de_var 0)) (da_cons (de_var 2) (da_cons de_dct0 da_nil))) (de_var 1) (sd_set hu)))))
  (ds_one (ds_ret de_bl)))))
abbrev s_Shelf_take : Stmt := inClass (top 5) 3
abbrev n_Shelf_take : List Str := ["self", "row", "key"]
theorem sc_Shelf_take : FnScope n_Shelf_take ["self", "row"] (defScope s_Shelf_take) := ⟨rfl, rfl, rfl, by decide +kernel, rfl, by decide +kernel, by decide +kernel⟩
theorem ok_Shelf_take (T : Txt K mg) {C : Addr} {f : Addr} {fd : FuncData} (F : Fun K "take" "Shelf.take" s_Shelf_take f fd) (hC : mg "Shelf" = some (.ref C)) (cl : Cls K C) (hm : Meth K C "take" f) (hb : Binds K fd ["self", "row"] []) {k : Nat} {sp_Shelf_keys_of : DSp}
    (G_Shelf_keys_of : MeD P w K mg base k "Shelf" "keys_of" sp_Shelf_keys_of) {sp : DSp}
    (sem : ∀ ds S R, sp ds S R → ds.length = 2 ∧ w_Shelf_take sp_Shelf_keys_of (endsD R) (startD 3 ds) S) : MeD P w K mg base (k + 1) "Shelf" "take" sp := by
  refine me_mk (N := n_Shelf_take) (ps := ["self", "row"]) (ws := w_Shelf_take sp_Shelf_keys_of) F sc_Shelf_take hC cl hm hb (by decide) (fun ds S R h => (sem ds S R h).1) (fun cdv A outer s H E hr => ?_) (fun ds S R h => (sem ds S R h).2)
  have nd : (n_Shelf_take).Nodup := sc_Shelf_take.nd
  have hu := room_units hr
  unfold w_Shelf_take
  exact (ds_cons (ds_if (dt_cmp (od_notIn hu) (de_var 1) (de_fld T.k_Shelf T.n_Shelf_kept (de_var 0)))
    (ds_one (ds_ret de_bl))
    ds_nil)
  (ds_cons (ds_expr (de_mtD PySem.F.slot_dict_pop PySem.F.type_dict_pop (md_popK hu) (de_fld T.k_Shelf T.n_Shelf_kept (de_var 0)) (da_cons (de_var 1) da_nil)))
  (ds_cons (ds_for PassesOwn.never rfl (di_any (de_meth G_Shelf_keys_of (hr.mono (by omega)) (de_var 0) (da_cons (de_var 1) da_nil))) (dg_name nd)
    (ds_one (ds_expr (de_mtD PySem.F.slot_dict_pop PySem.F.type_dict_pop (md_popK hu) (de_ix (od_ix hu) (de_fld T.k_Shelf T.n_Shelf_beginnings (de_var 0)) (de_var 2)) (da_cons (de_var 1) da_nil)))))
  (ds_one (ds_ret de_bl)))))
abbrev s_Shelf_rows : Stmt := inClass (top 5) 4
abbrev n_Shelf_rows : List Str := ["self"]
theorem sc_Shelf_rows : FnScope n_Shelf_rows ["self"] (defScope s_Shelf_rows) := ⟨rfl, rfl, rfl, by decide +kernel, rfl, by decide +kernel, by decide +kernel⟩
theorem ok_Shelf_rows (T : Txt K mg) {C : Addr} {f : Addr} {fd : FuncData} (F : Fun K "rows" "Shelf.rows" s_Shelf_rows f fd) (hC : mg "Shelf" = some (.ref C)) (cl : Cls K C) (hm : Meth K C "rows" f) (hb : Binds K fd ["self"] []) {k : Nat} {sp_sorted_rows : DSp}
    (G_sorted_rows : FnD P w K mg base k "sorted_rows" sp_sorted_rows) {sp : DSp}
    (sem : ∀ ds S R, sp ds S R → ds.length = 1 ∧ w_Shelf_rows sp_sorted_rows (endsD R) (startD 1 ds) S) : MeD P w K mg base (k + 1) "Shelf" "rows" sp := by
  refine me_mk (N := n_Shelf_rows) (ps := ["self"]) (ws := w_Shelf_rows sp_sorted_rows) F sc_Shelf_rows hC cl hm hb (by decide) (fun ds S R h => (sem ds S R h).1) (fun cdv A outer s H E hr => ?_) (fun ds S R h => (sem ds S R h).2)
  have nd : (n_Shelf_rows).Nodup := sc_Shelf_rows.nd
  have hu := room_units hr
  unfold w_Shelf_rows
  exact (ds_one (ds_ret (de_call G_sorted_rows (hr.mono (by omega)) rfl (da_cons (de_callT (cd_listA rfl) T.b_list rfl (by decide +kernel) (da_cons (de_fld T.k_Shelf T.n_Shelf_kept (de_var 0)) da_nil)) da_nil))))
abbrev s_Shelf_found : Stmt := inClass (top 5) 5
abbrev n_Shelf_found : List Str := ["self", "places", "things", "told", "number", "order", "first", "key", "place"]
theorem sc_Shelf_found : FnScope n_Shelf_found ["self", "places", "things"] (defScope s_Shelf_found) := ⟨rfl, rfl, rfl, by decide +kernel, rfl, by decide +kernel, by decide +kernel⟩
theorem ok_Shelf_found (T : Txt K mg) {C : Addr} {f : Addr} {fd : FuncData} (F : Fun K "found" "Shelf.found" s_Shelf_found f fd) (hC : mg "Shelf" = some (.ref C)) (cl : Cls K C) (hm : Meth K C "found" f) (hb : Binds K fd ["self", "places", "things"] []) {k : Nat} {sp_sorted_rows : DSp}
    (G_sorted_rows : FnD P w K mg base k "sorted_rows" sp_sorted_rows) {sp : DSp}
    (sem : ∀ ds S R, sp ds S R → ds.length = 3 ∧ w_Shelf_found sp_sorted_rows (endsD R) (startD 9 ds) S) : MeD P w K mg base (k + 1) "Shelf" "found" sp := by
  refine me_mk (N := n_Shelf_found) (ps := ["self", "places", "things"]) (ws := w_Shelf_found sp_sorted_rows) F sc_Shelf_found hC cl hm hb (by decide) (fun ds S R h => (sem ds S R h).1) (fun cdv A outer s H E hr => ?_) (fun ds S R h => (sem ds S R h).2)
  have nd : (n_Shelf_found).Nodup := sc_Shelf_found.nd
  have hu := room_units hr
  unfold w_Shelf_found
  exact (ds_cons (ds_set nd (de_dictZipK rfl rfl T.b_dict rfl T.b_zip (da_cons (de_var 1) (da_cons (de_var 2) da_nil))))
  (ds_cons (ds_for PassesOwn.never rfl (di_enumA T.b_enumerate rfl (da_cons (de_fld T.k_Shelf T.n_Shelf_by (de_var 0)) da_nil)) (dg_tup rfl (dgs_cons (dg_name nd) (dgs_cons (dg_name nd) dgs_nil)))
    (ds_cons (ds_set nd (de_slice sd_any (de_var 5) do_none (do_some (de_callB cd_len T.b_len rfl (by decide +kernel) (da_cons (de_var 1) da_nil)))))
  (ds_one (ds_if (dt_cmp (od_eq hu) (de_callB (cd_sortD rfl hu) T.b_sorted rfl (by decide +kernel) (da_cons (de_var 6) da_nil)) (de_callB (cd_sortD rfl hu) T.b_sorted rfl (by decide +kernel) (da_cons (de_var 1) da_nil)))
    (ds_cons (ds_set nd (de_tup (da_cons (de_var 4) (da_cons (de_callT cd_tuple T.b_tuple rfl (by decide +kernel) (da_cons (de_lc (own := [("place", 8)]) (g := (gName 8)) (own_name (by decide)) rfl nd (di_any (de_var 6)) (blkOk_by (own := [("place", 8)]) (N := n_Shelf_found) (sc := (defScope s_Shelf_found)) (by decide +kernel)) (fun _ _ _ _ _ => (pg_nm nd)) (fun _ _ _ _ _ => dts_nil) (fun _ _ _ _ _ => (de_ix (od_ix hu) (de_var 3) (de_var 8)))) da_nil)) da_nil))))
  (ds_one (ds_ret (de_call G_sorted_rows (hr.mono (by omega)) rfl (da_cons (de_callT (cd_listA rfl) T.b_list rfl (by decide +kernel) (da_cons (de_mtD PySem.F.slot_dict_get PySem.F.type_dict_get (md_getM hu) (de_fld T.k_Shelf T.n_Shelf_beginnings (de_var 0)) (da_cons (de_var 7) (da_cons de_dct0 da_nil))) da_nil)) da_nil)))))
    ds_nil))))
  (ds_one (ds_ret (de_lst da_nil)))))
abbrev s_law_cell_at : Stmt := top 7
abbrev n_law_cell_at : List Str := ["script", "k"]
theorem sc_law_cell_at : FnScope n_law_cell_at ["script", "k"] (defScope s_law_cell_at) := ⟨rfl, rfl, rfl, by decide +kernel, rfl, by decide +kernel, by decide +kernel⟩
theorem ok_law_cell_at (T : Txt K mg) {f : Addr} {fd : FuncData} (F : Fun K "_law_cell_at" "_law_cell_at" s_law_cell_at f fd) (hf : mg "_law_cell_at" = some (.ref f)) (hb : Binds K fd ["script", "k"] []) {k : Nat} {sp : DSp}
    (sem : ∀ ds S R, sp ds S R → ds.length = 2 ∧ w_law_cell_at (endsD R) (startD 2 ds) S) : FnD P w K mg base (k + 1) "_law_cell_at" sp := by
  refine fn_mk (N := n_law_cell_at) (ps := ["script", "k"]) (ws := w_law_cell_at) F sc_law_cell_at hf hb (by decide) (fun ds S R h => (sem ds S R h).1) (fun cdv A outer s H E hr => ?_) (fun ds S R h => (sem ds S R h).2)
  have nd : (n_law_cell_at).Nodup := sc_law_cell_at.nd
  have hu := room_units hr
  unfold w_law_cell_at
  exact (ds_cons (ds_if (dt_cmp (od_lt hu) (de_var 1) (de_callB cd_len T.b_len rfl (by decide +kernel) (da_cons (de_var 0) da_nil)))
    (ds_one (ds_ret (de_ix (od_ix hu) (de_var 0) (de_var 1))))
    ds_nil)
  (ds_one (ds_ret de_int)))
abbrev s_law_left : Stmt := top 8
abbrev n_law_left : List Str := ["script", "k", "cell", "seed"]
theorem sc_law_left : FnScope n_law_left ["script", "k"] (defScope s_law_left) := ⟨rfl, rfl, rfl, by decide +kernel, rfl, by decide +kernel, by decide +kernel⟩
theorem ok_law_left (T : Txt K mg) {f : Addr} {fd : FuncData} (F : Fun K "_law_left" "_law_left" s_law_left f fd) (hf : mg "_law_left" = some (.ref f)) (hb : Binds K fd ["script", "k"] []) {k : Nat} {sp_law_cell_at : DSp}
    (G_law_cell_at : FnD P w K mg base k "_law_cell_at" sp_law_cell_at) {sp : DSp}
    (sem : ∀ ds S R, sp ds S R → ds.length = 2 ∧ w_law_left sp_law_cell_at (endsD R) (startD 4 ds) S) : FnD P w K mg base (k + 1) "_law_left" sp := by
  refine fn_mk (N := n_law_left) (ps := ["script", "k"]) (ws := w_law_left sp_law_cell_at) F sc_law_left hf hb (by decide) (fun ds S R h => (sem ds S R h).1) (fun cdv A outer s H E hr => ?_) (fun ds S R h => (sem ds S R h).2)
  have nd : (n_law_left).Nodup := sc_law_left.nd
  have hu := room_units hr
  unfold w_law_left
  exact (ds_cons (ds_set nd (de_call G_law_cell_at (hr.mono (by omega)) rfl (da_cons (de_var 0) (da_cons (de_var 1) da_nil))))
  (ds_cons (ds_set nd (de_op od_mod (de_op od_mul (de_op od_add (de_op od_add (de_op od_mod (de_var 2) de_int) (de_op od_mul (de_op od_mul de_int (de_var 1)) (de_var 1))) de_int) de_int) de_int))
  (ds_cons (ds_if (dt_cmp (od_eq hu) (de_op od_mod (de_call G_law_cell_at (hr.mono (by omega)) rfl (da_cons (de_var 0) (da_cons de_int da_nil))) de_int) de_int)
    (ds_one (ds_set nd de_int))
    ds_nil)
  (ds_one (ds_ret (de_lst (da_cons (de_op od_mod (de_var 2) (de_op od_pow de_int de_int)) (da_cons (de_var 3) da_nil))))))))
abbrev s_law_pick : Stmt := top 9
abbrev n_law_pick : List Str := ["left", "many", "digit"]
theorem sc_law_pick : FnScope n_law_pick ["left", "many"] (defScope s_law_pick) := ⟨rfl, rfl, rfl, by decide +kernel, rfl, by decide +kernel, by decide +kernel⟩
theorem ok_law_pick (T : Txt K mg) {f : Addr} {fd : FuncData} (F : Fun K "_law_pick" "_law_pick" s_law_pick f fd) (hf : mg "_law_pick" = some (.ref f)) (hb : Binds K fd ["left", "many"] []) {k : Nat} {sp : DSp}
    (sem : ∀ ds S R, sp ds S R → ds.length = 2 ∧ w_law_pick (endsD R) (startD 3 ds) S) : FnD P w K mg base (k + 1) "_law_pick" sp := by
  refine fn_mk (N := n_law_pick) (ps := ["left", "many"]) (ws := w_law_pick) F sc_law_pick hf hb (by decide) (fun ds S R h => (sem ds S R h).1) (fun cdv A outer s H E hr => ?_) (fun ds S R h => (sem ds S R h).2)
  have nd : (n_law_pick).Nodup := sc_law_pick.nd
  have hu := room_units hr
  unfold w_law_pick
  exact (ds_cons (ds_if (dt_cmp od_gt (de_ix (od_ix hu) (de_var 0) de_int) de_int)
    (ds_cons (ds_set nd (de_op od_mod (de_ix (od_ix hu) (de_var 0) de_int) (de_var 1)))
  (ds_cons (ds_asg (de_op od_div (de_ix (od_ix hu) (de_var 0) de_int) (de_var 1)) (dg_sub (de_var 0) de_int (sd_set hu)))
  (ds_one (ds_ret (de_var 2)))))
    ds_nil)
  (ds_cons (ds_asg (de_op od_mod (de_op od_add (de_op od_mul (de_ix (od_ix hu) (de_var 0) de_int) de_int) de_int) de_int) (dg_sub (de_var 0) de_int (sd_set hu)))
  (ds_one (ds_ret (de_op od_mod (de_op od_mod (de_op od_mul (de_ix (od_ix hu) (de_var 0) de_int) (de_ix (od_ix hu) (de_var 0) de_int)) de_int) (de_var 1))))))
abbrev s_law_thing : Stmt := top 10
abbrev n_law_thing : List Str := ["left", "deep", "way", "word", "k"]
theorem sc_law_thing : FnScope n_law_thing ["left", "deep"] (defScope s_law_thing) := ⟨rfl, rfl, rfl, by decide +kernel, rfl, by decide +kernel, by decide +kernel⟩
theorem ok_law_thing (T : Txt K mg) {f : Addr} {fd : FuncData} (F : Fun K "_law_thing" "_law_thing" s_law_thing f fd) (hf : mg "_law_thing" = some (.ref f)) (hb : Binds K fd ["left", "deep"] []) {k : Nat} {sp_law_pick sp_law_thing : DSp}
    (G_law_pick : FnD P w K mg base k "_law_pick" sp_law_pick)
    (G_law_thing : FnD P w K mg base k "_law_thing" sp_law_thing) {sp : DSp}
    (sem : ∀ ds S R, sp ds S R → ds.length = 2 ∧ w_law_thing sp_law_pick sp_law_thing (endsD R) (startD 5 ds) S) : FnD P w K mg base (k + 1) "_law_thing" sp := by
  refine fn_mk (N := n_law_thing) (ps := ["left", "deep"]) (ws := w_law_thing sp_law_pick sp_law_thing) F sc_law_thing hf hb (by decide) (fun ds S R h => (sem ds S R h).1) (fun cdv A outer s H E hr => ?_) (fun ds S R h => (sem ds S R h).2)
  have nd : (n_law_thing).Nodup := sc_law_thing.nd
  have hu := room_units hr
  unfold w_law_thing
  exact (ds_cons (ds_set nd (de_call G_law_pick (hr.mono (by omega)) rfl (da_cons (de_var 0) (da_cons de_int da_nil))))
  (ds_cons (ds_if (PW.pt (dw_and (dt_cmp (od_lt hu) (de_var 2) de_int) (dw_and1 (dt_cmp od_gt (de_var 1) de_int))))
    (ds_cons (ds_set nd (de_ix (od_ix hu) (de_lst (da_cons de_str (da_cons de_str (da_cons de_str (da_cons de_str (da_cons de_str da_nil)))))) (de_call G_law_pick (hr.mono (by omega)) rfl (da_cons (de_var 0) (da_cons de_int da_nil)))))
  (ds_one (ds_ret (de_op od_add (de_tup (da_cons (de_var 3) da_nil)) (de_callT cd_tuple T.b_tuple rfl (by decide +kernel) (da_cons (de_lc (own := [("k", 4)]) (g := (gName 4)) (own_name (by decide)) rfl nd (di_range1 T.b_range rfl (da_cons (de_ix (od_ix hu) (de_lst (da_cons de_int (da_cons de_int (da_cons de_int (da_cons de_int (da_cons de_int da_nil)))))) (de_call G_law_pick (hr.mono (by omega)) rfl (da_cons (de_var 0) (da_cons de_int da_nil)))) da_nil)) (blkOk_by (own := [("k", 4)]) (N := n_law_thing) (sc := (defScope s_law_thing)) (by decide +kernel)) (fun _ _ _ _ _ => (pg_nm nd)) (fun _ _ _ _ _ => dts_nil) (fun _ _ _ _ _ => (de_call G_law_thing (hr.mono (by omega)) rfl (da_cons (de_var 0) (da_cons (de_op od_sub (de_var 1) de_int) da_nil))))) da_nil))))))
    ds_nil)
  (ds_cons (ds_if (dt_cmp (od_eq hu) (de_var 2) de_int)
    (ds_one (ds_ret (de_ix (od_ix hu) (de_lst (da_cons (de_op od_sub (de_op od_pow de_int de_int) de_int) (da_cons (de_op od_sub de_int (de_op od_pow de_int de_int)) (da_cons (de_op od_pow de_int de_int) da_nil)))) (de_call G_law_pick (hr.mono (by omega)) rfl (da_cons (de_var 0) (da_cons de_int da_nil))))))
    ds_nil)
  (ds_one (ds_ret (de_op od_sub (de_call G_law_pick (hr.mono (by omega)) rfl (da_cons (de_var 0) (da_cons de_int da_nil))) de_int))))))
abbrev s_law_rank : Stmt := top 11
abbrev n_law_rank : List Str := ["thing", "part"]
theorem sc_law_rank : FnScope n_law_rank ["thing"] (defScope s_law_rank) := ⟨rfl, rfl, rfl, by decide +kernel, rfl, by decide +kernel, by decide +kernel⟩
theorem ok_law_rank (T : Txt K mg) {f : Addr} {fd : FuncData} (F : Fun K "_law_rank" "_law_rank" s_law_rank f fd) (hf : mg "_law_rank" = some (.ref f)) (hb : Binds K fd ["thing"] []) {k : Nat} {sp_law_rank : DSp}
    (G_law_rank : FnD P w K mg base k "_law_rank" sp_law_rank) {sp : DSp}
    (sem : ∀ ds S R, sp ds S R → ds.length = 1 ∧ w_law_rank sp_law_rank (endsD R) (startD 2 ds) S) : FnD P w K mg base (k + 1) "_law_rank" sp := by
  refine fn_mk (N := n_law_rank) (ps := ["thing"]) (ws := w_law_rank sp_law_rank) F sc_law_rank hf hb (by decide) (fun ds S R h => (sem ds S R h).1) (fun cdv A outer s H E hr => ?_) (fun ds S R h => (sem ds S R h).2)
  have nd : (n_law_rank).Nodup := sc_law_rank.nd
  have hu := room_units hr
  unfold w_law_rank
  exact (ds_cons (ds_if (dt_truth (de_isi T.b_isinstance rfl T.b_int rfl (by decide +kernel) (de_var 0)))
    (ds_one (ds_ret (de_tup (da_cons de_int (da_cons (de_var 0) da_nil)))))
    ds_nil)
  (ds_one (ds_ret (de_tup (da_cons de_int (da_cons (de_ix (od_ix hu) (de_var 0) de_int) (da_cons (de_callB cd_len T.b_len rfl (by decide +kernel) (da_cons (de_var 0) da_nil)) (da_cons (de_callT cd_tuple T.b_tuple rfl (by decide +kernel) (da_cons (de_lc (own := [("part", 1)]) (g := (gName 1)) (own_name (by decide)) rfl nd (di_any (de_slice sd_any (de_var 0) (do_some de_int) do_none)) (blkOk_by (own := [("part", 1)]) (N := n_law_rank) (sc := (defScope s_law_rank)) (by decide +kernel)) (fun _ _ _ _ _ => (pg_nm nd)) (fun _ _ _ _ _ => dts_nil) (fun _ _ _ _ _ => (de_call G_law_rank (hr.mono (by omega)) rfl (da_cons (de_var 1) da_nil)))) da_nil)) da_nil))))))))
abbrev s_law_row_rank : Stmt := top 12
abbrev n_law_row_rank : List Str := ["row", "thing"]
theorem sc_law_row_rank : FnScope n_law_row_rank ["row"] (defScope s_law_row_rank) := ⟨rfl, rfl, rfl, by decide +kernel, rfl, by decide +kernel, by decide +kernel⟩
theorem ok_law_row_rank (T : Txt K mg) {f : Addr} {fd : FuncData} (F : Fun K "_law_row_rank" "_law_row_rank" s_law_row_rank f fd) (hf : mg "_law_row_rank" = some (.ref f)) (hb : Binds K fd ["row"] []) {k : Nat} {sp_law_rank : DSp}
    (G_law_rank : FnD P w K mg base k "_law_rank" sp_law_rank) {sp : DSp}
    (sem : ∀ ds S R, sp ds S R → ds.length = 1 ∧ w_law_row_rank sp_law_rank (endsD R) (startD 2 ds) S) : FnD P w K mg base (k + 1) "_law_row_rank" sp := by
  refine fn_mk (N := n_law_row_rank) (ps := ["row"]) (ws := w_law_row_rank sp_law_rank) F sc_law_row_rank hf hb (by decide) (fun ds S R h => (sem ds S R h).1) (fun cdv A outer s H E hr => ?_) (fun ds S R h => (sem ds S R h).2)
  have nd : (n_law_row_rank).Nodup := sc_law_row_rank.nd
  have hu := room_units hr
  unfold w_law_row_rank
  exact (ds_one (ds_ret (de_lc (own := [("thing", 1)]) (g := (gName 1)) (own_name (by decide)) rfl nd (di_any (de_var 0)) (blkOk_by (own := [("thing", 1)]) (N := n_law_row_rank) (sc := (defScope s_law_row_rank)) (by decide +kernel)) (fun _ _ _ _ _ => (pg_nm nd)) (fun _ _ _ _ _ => dts_nil) (fun _ _ _ _ _ => (de_call G_law_rank (hr.mono (by omega)) rfl (da_cons (de_var 1) da_nil))))))
abbrev s_law_sorted : Stmt := top 13
abbrev n_law_sorted : List Str := ["rows"]
theorem sc_law_sorted : FnScope n_law_sorted ["rows"] (defScope s_law_sorted) := ⟨rfl, rfl, rfl, by decide +kernel, rfl, by decide +kernel, by decide +kernel⟩
theorem ok_law_sorted (T : Txt K mg) {f : Addr} {fd : FuncData} (F : Fun K "_law_sorted" "_law_sorted" s_law_sorted f fd) (hf : mg "_law_sorted" = some (.ref f)) (hb : Binds K fd ["rows"] []) {k : Nat} {sp_law_row_rank : DSp}
    (G_law_row_rank : FnD P w K mg base k "_law_row_rank" sp_law_row_rank) {sp : DSp}
    (sem : ∀ ds S R, sp ds S R → ds.length = 1 ∧ w_law_sorted sp_law_row_rank (endsD R) (startD 1 ds) S) : FnD P w K mg base (k + 3) "_law_sorted" sp := by
  refine fn_mk (N := n_law_sorted) (ps := ["rows"]) (ws := w_law_sorted sp_law_row_rank) F sc_law_sorted hf hb (by decide) (fun ds S R h => (sem ds S R h).1) (fun cdv A outer s H E hr => ?_) (fun ds S R h => (sem ds S R h).2)
  have nd : (n_law_sorted).Nodup := sc_law_sorted.nd
  have hu := room_units hr
  unfold w_law_sorted
  exact (ds_one (ds_ret (de_sortKL G_law_row_rank (hr.mono (by omega)) rfl hu T.b_sorted rfl rfl (da_cons (de_var 0) da_nil))))
abbrev s_law_orders_drawn : Stmt := top 14
abbrev n_law_orders_drawn : List Str := ["left", "size", "lines", "k", "order", "place"]
theorem sc_law_orders_drawn : FnScope n_law_orders_drawn ["left", "size"] (defScope s_law_orders_drawn) := ⟨rfl, rfl, rfl, by decide +kernel, rfl, by decide +kernel, by decide +kernel⟩
theorem ok_law_orders_drawn (T : Txt K mg) {f : Addr} {fd : FuncData} (F : Fun K "_law_orders_drawn" "_law_orders_drawn" s_law_orders_drawn f fd) (hf : mg "_law_orders_drawn" = some (.ref f)) (hb : Binds K fd ["left", "size"] []) {k : Nat} {sp_law_pick : DSp}
    (G_law_pick : FnD P w K mg base k "_law_pick" sp_law_pick) {sp : DSp}
    (sem : ∀ ds S R, sp ds S R → ds.length = 2 ∧ w_law_orders_drawn sp_law_pick (endsD R) (startD 6 ds) S) : FnD P w K mg base (k + 1) "_law_orders_drawn" sp := by
  refine fn_mk (N := n_law_orders_drawn) (ps := ["left", "size"]) (ws := w_law_orders_drawn sp_law_pick) F sc_law_orders_drawn hf hb (by decide) (fun ds S R h => (sem ds S R h).1) (fun cdv A outer s H E hr => ?_) (fun ds S R h => (sem ds S R h).2)
  have nd : (n_law_orders_drawn).Nodup := sc_law_orders_drawn.nd
  have hu := room_units hr
  unfold w_law_orders_drawn
  exact (ds_cons (ds_set nd (de_lst da_nil))
  (ds_cons (ds_for PassesOwn.never rfl (di_range1 T.b_range rfl (da_cons (de_ix (od_ix hu) (de_lst (da_cons de_int (da_cons de_int (da_cons de_int (da_cons de_int (da_cons de_int (da_cons de_int da_nil))))))) (de_call G_law_pick (hr.mono (by omega)) rfl (da_cons (de_var 0) (da_cons de_int da_nil)))) da_nil)) (dg_name nd)
    (ds_cons (ds_set nd (de_lst da_nil))
  (ds_cons (ds_for PassesOwn.never rfl (di_range1 T.b_range rfl (da_cons (de_var 1) da_nil)) (dg_name nd)
    (ds_one (ds_expr (de_mt PySem.F.plainAttrs_list PySem.F.slot_list_insert PySem.F.type_list_insert md_insert (de_var 4) (da_cons (de_call G_law_pick (hr.mono (by omega)) rfl (da_cons (de_var 0) (da_cons (de_op od_add (de_callB cd_len T.b_len rfl (by decide +kernel) (da_cons (de_var 4) da_nil)) de_int) da_nil))) (da_cons (de_var 5) da_nil))))))
  (ds_one (ds_expr (de_mt PySem.F.plainAttrs_list PySem.F.slot_list_append PySem.F.type_list_append md_append (de_var 2) (da_cons (de_callT cd_tuple T.b_tuple rfl (by decide +kernel) (da_cons (de_var 4) da_nil)) da_nil)))))))
  (ds_one (ds_ret (de_var 2)))))
abbrev s_law_row : Stmt := top 15
abbrev n_law_row : List Str := ["left", "size", "some", "k"]
theorem sc_law_row : FnScope n_law_row ["left", "size", "some"] (defScope s_law_row) := ⟨rfl, rfl, rfl, by decide +kernel, rfl, by decide +kernel, by decide +kernel⟩
theorem ok_law_row (T : Txt K mg) {f : Addr} {fd : FuncData} (F : Fun K "_law_row" "_law_row" s_law_row f fd) (hf : mg "_law_row" = some (.ref f)) (hb : Binds K fd ["left", "size", "some"] []) {k : Nat} {sp_law_pick : DSp}
    (G_law_pick : FnD P w K mg base k "_law_pick" sp_law_pick) {sp : DSp}
    (sem : ∀ ds S R, sp ds S R → ds.length = 3 ∧ w_law_row sp_law_pick (endsD R) (startD 4 ds) S) : FnD P w K mg base (k + 1) "_law_row" sp := by
  refine fn_mk (N := n_law_row) (ps := ["left", "size", "some"]) (ws := w_law_row sp_law_pick) F sc_law_row hf hb (by decide) (fun ds S R h => (sem ds S R h).1) (fun cdv A outer s H E hr => ?_) (fun ds S R h => (sem ds S R h).2)
  have nd : (n_law_row).Nodup := sc_law_row.nd
  have hu := room_units hr
  unfold w_law_row
  exact (ds_one (ds_ret (de_callT cd_tuple T.b_tuple rfl (by decide +kernel) (da_cons (de_lc (own := [("k", 3)]) (g := (gName 3)) (own_name (by decide)) rfl nd (di_range1 T.b_range rfl (da_cons (de_var 1) da_nil)) (blkOk_by (own := [("k", 3)]) (N := n_law_row) (sc := (defScope s_law_row)) (by decide +kernel)) (fun _ _ _ _ _ => (pg_nm nd)) (fun _ _ _ _ _ => dts_nil) (fun _ _ _ _ _ => (de_ix (od_ix hu) (de_var 2) (de_call G_law_pick (hr.mono (by omega)) rfl (da_cons (de_var 0) (da_cons (de_callB cd_len T.b_len rfl (by decide +kernel) (da_cons (de_var 2) da_nil)) da_nil)))))) da_nil))))
abbrev s_law_told : Stmt := top 16
abbrev n_law_told : List Str := ["found", "due", "row"]
theorem sc_law_told : FnScope n_law_told ["found", "due"] (defScope s_law_told) := ⟨rfl, rfl, rfl, by decide +kernel, rfl, by decide +kernel, by decide +kernel⟩
theorem ok_law_told (T : Txt K mg) {f : Addr} {fd : FuncData} (F : Fun K "_law_told" "_law_told" s_law_told f fd) (hf : mg "_law_told" = some (.ref f)) (hb : Binds K fd ["found", "due"] []) {k : Nat} {sp : DSp}
    (sem : ∀ ds S R, sp ds S R → ds.length = 2 ∧ w_law_told (endsD R) (startD 3 ds) S) : FnD P w K mg base (k + 1) "_law_told" sp := by
  refine fn_mk (N := n_law_told) (ps := ["found", "due"]) (ws := w_law_told) F sc_law_told hf hb (by decide) (fun ds S R h => (sem ds S R h).1) (fun cdv A outer s H E hr => ?_) (fun ds S R h => (sem ds S R h).2)
  have nd : (n_law_told).Nodup := sc_law_told.nd
  have hu := room_units hr
  unfold w_law_told
  exact (ds_cons (ds_if (PW.pt (dw_or (dt_not (dt_truth (de_isi T.b_isinstance rfl T.b_list rfl (by decide +kernel) (de_var 0)))) (dw_or1 (dt_not (dt_truth (de_callB (cd_all rfl) T.b_all rfl (by decide +kernel) (da_cons (de_lc (own := [("row", 2)]) (g := (gName 2)) (own_name (by decide)) rfl nd (di_any (de_var 0)) (blkOk_by (own := [("row", 2)]) (N := n_law_told) (sc := (defScope s_law_told)) (by decide +kernel)) (fun _ _ _ _ _ => (pg_nm nd)) (fun _ _ _ _ _ => dts_nil) (fun _ _ _ _ _ => (de_isi T.b_isinstance rfl T.b_tuple rfl (by decide +kernel) (de_var 2)))) da_nil)))))))
    (ds_one (ds_ret de_bl))
    ds_nil)
  (ds_one (ds_ret (de_cmp (od_eq hu) (de_var 0) (de_var 1)))))
abbrev s_law_found_right : Stmt := top 17
abbrev n_law_found_right : List Str := ["left", "held", "some", "shelf", "size", "lines", "kept", "order", "places", "row", "things", "due", "turn", "handed", "found", "place", "one"]
theorem sc_law_found_right : FnScope n_law_found_right ["left", "held", "some"] (defScope s_law_found_right) := ⟨rfl, rfl, rfl, by decide +kernel, rfl, by decide +kernel, by decide +kernel⟩
theorem ok_law_found_right (T : Txt K mg) {f : Addr} {fd : FuncData} (F : Fun K "_law_found_right" "_law_found_right" s_law_found_right f fd) (hf : mg "_law_found_right" = some (.ref f)) (hb : Binds K fd ["left", "held", "some"] []) {k : Nat} {sp_law_pick sp_law_row sp_Shelf_found sp_law_told sp_law_sorted : DSp}
    (G_law_pick : FnD P w K mg base k "_law_pick" sp_law_pick)
    (G_law_row : FnD P w K mg base k "_law_row" sp_law_row)
    (G_Shelf_found : MeD P w K mg base k "Shelf" "found" sp_Shelf_found)
    (G_law_told : FnD P w K mg base k "_law_told" sp_law_told)
    (G_law_sorted : FnD P w K mg base k "_law_sorted" sp_law_sorted) {sp : DSp}
    (sem : ∀ ds S R, sp ds S R → ds.length = 3 ∧ w_law_found_right sp_law_pick sp_law_row sp_Shelf_found sp_law_told sp_law_sorted (endsD R) (startD 17 ds) S) : FnD P w K mg base (k + 1) "_law_found_right" sp := by
  refine fn_mk (N := n_law_found_right) (ps := ["left", "held", "some"]) (ws := w_law_found_right sp_law_pick sp_law_row sp_Shelf_found sp_law_told sp_law_sorted) F sc_law_found_right hf hb (by decide) (fun ds S R h => (sem ds S R h).1) (fun cdv A outer s H E hr => ?_) (fun ds S R h => (sem ds S R h).2)
  have nd : (n_law_found_right).Nodup := sc_law_found_right.nd
  have hu := room_units hr
  unfold w_law_found_right
  exact (ds_cons (ds_asg (de_var 1) (dg_tup rfl (dgs_cons (dg_name nd) (dgs_cons (dg_name nd) (dgs_cons (dg_name nd) (dgs_cons (dg_name nd) dgs_nil))))))
  (ds_cons (ds_set nd (de_ix (od_ix hu) (de_var 5) (de_call G_law_pick (hr.mono (by omega)) rfl (da_cons (de_var 0) (da_cons (de_callB cd_len T.b_len rfl (by decide +kernel) (da_cons (de_var 5) da_nil)) da_nil)))))
  (ds_cons (ds_set nd (de_callT cd_tuple T.b_tuple rfl (by decide +kernel) (da_cons (de_callB (cd_sortD rfl hu) T.b_sorted rfl (by decide +kernel) (da_cons (de_slice sd_any (de_var 7) do_none (do_some (de_call G_law_pick (hr.mono (by omega)) rfl (da_cons (de_var 0) (da_cons (de_op od_add (de_var 4) de_int) da_nil))))) da_nil)) da_nil)))
  (ds_cons (ds_set nd (de_call G_law_row (hr.mono (by omega)) rfl (da_cons (de_var 0) (da_cons (de_var 4) (da_cons (de_var 2) da_nil)))))
  (ds_cons (ds_if (PW.pt (dw_and (dt_cmp (od_neE hu) (de_var 6) (de_lst da_nil)) (dw_and1 (dt_cmp od_gt (de_call G_law_pick (hr.mono (by omega)) rfl (da_cons (de_var 0) (da_cons de_int da_nil))) de_int))))
    (ds_one (ds_set nd (de_ix (od_ix hu) (de_var 6) (de_call G_law_pick (hr.mono (by omega)) rfl (da_cons (de_var 0) (da_cons (de_callB cd_len T.b_len rfl (by decide +kernel) (da_cons (de_var 6) da_nil)) da_nil))))))
    ds_nil)
  (ds_cons (ds_set nd (de_lc (own := [("place", 15)]) (g := (gName 15)) (own_name (by decide)) rfl nd (di_any (de_var 8)) (blkOk_by (own := [("place", 15)]) (N := n_law_found_right) (sc := (defScope s_law_found_right)) (by decide +kernel)) (fun _ _ _ _ _ => (pg_nm nd)) (fun _ _ _ _ _ => dts_nil) (fun _ _ _ _ _ => (de_ix (od_ix hu) (de_var 9) (de_var 15)))))
  (ds_cons (ds_setLc (own := [("one", 16)]) (g := (gName 16)) (own_name (by decide)) (i := 11) rfl nd rfl rfl (sw_true rfl rfl rfl (by decide +kernel)) (di_any (de_var 6)) (blkOk_by (own := [("one", 16)]) (N := n_law_found_right) (sc := (defScope s_law_found_right)) (by decide +kernel)) (fun _ _ _ _ _ => (pg_nm nd)) (fun _ _ _ _ _ => (dts_one (dt_cmp (od_eq hu) (de_lc (own := [("place", 15)]) (g := (gName 15)) (own_name (by decide)) rfl nd (di_any (de_var 8)) (blk_in (blkOk_by (own := [("place", 15)]) (N := n_law_found_right) (sc := { kind := PySem.ScopeKind.function, names := [ (PySem.Str.ofString ".0", PySem.NameKind.local), (PySem.Str.ofString "one", PySem.NameKind.cell), (PySem.Str.ofString "places", PySem.NameKind.free), (PySem.Str.ofString "things", PySem.NameKind.free)], isGenerator := false, isCoroutine := false, more := [] : PySem.Scope }) (by decide +kernel))) (fun _ _ _ _ _ => (pg_nm nd)) (fun _ _ _ _ _ => dts_nil) (fun _ _ _ _ _ => (de_ix (od_ix hu) (de_var 16) (de_var 15)))) (de_var 10)))) (fun _ _ _ _ _ => (de_var 16)))
  (ds_cons (ds_for PassesOwn.never rfl (di_range1 T.b_range rfl (da_cons de_int da_nil)) (dg_name nd)
    (ds_cons (ds_set nd (de_callT (cd_listA rfl) T.b_list rfl (by decide +kernel) (da_cons (de_var 10) da_nil)))
  (ds_cons (ds_set nd (de_meth G_Shelf_found (hr.mono (by omega)) (de_var 3) (da_cons (de_var 8) (da_cons (de_var 13) da_nil))))
  (ds_cons (ds_if (PW.pt (dw_or (dt_not (dt_truth (de_call G_law_told (hr.mono (by omega)) rfl (da_cons (de_var 14) (da_cons (de_call G_law_sorted (hr.mono (by omega)) rfl (da_cons (de_var 11) da_nil)) da_nil))))) (dw_or1 (dt_cmp (od_ne hu) (de_var 13) (de_var 10)))))
    (ds_one (ds_ret de_bl))
    ds_nil)
  (ds_one (ds_expr (de_mt0 PySem.F.plainAttrs_list PySem.F.slot_list_clear PySem.F.type_list_clear md_clear (de_var 14))))))))
  (ds_one (ds_ret de_bl))))))))))
abbrev s_law : Stmt := top 18
abbrev n_law : List Str := ["script", "left", "k", "some", "shelves", "size", "lines", "shelf", "kept", "row", "held"]
theorem sc_law : FnScope n_law ["script"] (defScope s_law) := ⟨rfl, rfl, rfl, by decide +kernel, rfl, by decide +kernel, by decide +kernel⟩
theorem ok_law (T : Txt K mg) {f : Addr} {fd : FuncData} (F : Fun K "law" "law" s_law f fd) {k : Nat} {sp_law_left sp_law_pick sp_law_thing sp_law_orders_drawn sp_Shelf___init__ sp_law_row sp_Shelf_take sp_Shelf_add sp_law_found_right : DSp}
    (G_law_left : FnD P w K mg base k "_law_left" sp_law_left)
    (G_law_pick : FnD P w K mg base k "_law_pick" sp_law_pick)
    (G_law_thing : FnD P w K mg base k "_law_thing" sp_law_thing)
    (G_law_orders_drawn : FnD P w K mg base k "_law_orders_drawn" sp_law_orders_drawn)
    (G_Shelf___init__ : InD P w K mg base k "Shelf" sp_Shelf___init__)
    (G_law_row : FnD P w K mg base k "_law_row" sp_law_row)
    (G_Shelf_take : MeD P w K mg base k "Shelf" "take" sp_Shelf_take)
    (G_Shelf_add : MeD P w K mg base k "Shelf" "add" sp_Shelf_add)
    (G_law_found_right : FnD P w K mg base k "_law_found_right" sp_law_found_right) {sp : DSp}
    (sem : ∀ ds S R, sp ds S R → ds.length = 1 ∧ w_law sp_law_left sp_law_pick sp_law_thing sp_law_orders_drawn sp_Shelf___init__ sp_law_row sp_Shelf_take sp_Shelf_add sp_law_found_right (endsD R) (startD 11 ds) S) : FnG P w K mg base CX0 (k + 2) f fd ["script"] (spD w K mg sp) := by
  refine fn_ok (N := n_law) (ps := ["script"]) (ws := w_law sp_law_left sp_law_pick sp_law_thing sp_law_orders_drawn sp_Shelf___init__ sp_law_row sp_Shelf_take sp_Shelf_add sp_law_found_right) F sc_law (by decide) (fun ds S R h => (sem ds S R h).1) (fun cdv A outer s H E hr => ?_) (fun ds S R h => (sem ds S R h).2)
  have nd : (n_law).Nodup := sc_law.nd
  have hu := room_units hr
  unfold w_law
  exact (ds_cons (ds_set nd (de_call G_law_left (hr.mono (by omega)) rfl (da_cons (de_var 0) (da_cons de_int da_nil))))
  (ds_cons (ds_set nd (de_lc (own := [("k", 2)]) (g := (gName 2)) (own_name (by decide)) rfl nd (di_range1 T.b_range rfl (da_cons (de_op od_add de_int (de_call G_law_pick (hr.mono (by omega)) rfl (da_cons (de_var 1) (da_cons de_int da_nil)))) da_nil)) (blkOk_by (own := [("k", 2)]) (N := n_law) (sc := (defScope s_law)) (by decide +kernel)) (fun _ _ _ _ _ => (pg_nm nd)) (fun _ _ _ _ _ => dts_nil) (fun _ _ _ _ _ => (de_call G_law_thing (hr.mono (by omega)) rfl (da_cons (de_var 1) (da_cons de_int da_nil))))))
  (ds_cons (ds_set nd (de_lst da_nil))
  (ds_cons (ds_for PassesOwn.never rfl (di_range1 T.b_range rfl (da_cons de_int da_nil)) (dg_name nd)
    (ds_cons (ds_set nd (de_call G_law_left (hr.mono (by omega)) rfl (da_cons (de_var 0) (da_cons (de_var 2) da_nil))))
  (ds_cons (ds_set nd (de_ix (od_ix hu) (de_lst (da_cons de_int (da_cons de_int (da_cons de_int (da_cons de_int (da_cons de_int (da_cons de_int da_nil))))))) (de_call G_law_pick (hr.mono (by omega)) rfl (da_cons (de_var 1) (da_cons de_int da_nil)))))
  (ds_cons (ds_set nd (de_call G_law_orders_drawn (hr.mono (by omega)) rfl (da_cons (de_var 1) (da_cons (de_var 5) da_nil))))
  (ds_cons (ds_if (dt_cmp (od_eq hu) (de_var 6) (de_lst da_nil))
    (ds_one (ds_set nd (de_lst (da_cons (de_tupRange rfl rfl T.b_tuple rfl T.b_range (de_var 5)) da_nil))))
    ds_nil)
  (ds_one (ds_expr (de_mt PySem.F.plainAttrs_list PySem.F.slot_list_append PySem.F.type_list_append md_append (de_var 4) (da_cons (de_tup (da_cons (de_make G_Shelf___init__ (hr.mono (by omega)) rfl (da_cons (de_var 5) (da_cons (de_callT (cd_listA rfl) T.b_list rfl (by decide +kernel) (da_cons (de_var 6) da_nil)) da_nil))) (da_cons (de_var 5) (da_cons (de_var 6) (da_cons (de_lst da_nil) da_nil))))) da_nil)))))))))
  (ds_cons (ds_for PassesOwn.never rfl (di_range2 T.b_range rfl (da_cons de_int (da_cons (de_callB (cd_max2 rfl) T.b_max rfl (by decide +kernel) (da_cons de_int (da_cons (de_callB (cd_min2 rfl) T.b_min rfl (by decide +kernel) (da_cons (de_callB cd_len T.b_len rfl (by decide +kernel) (da_cons (de_var 0) da_nil)) (da_cons de_int da_nil))) da_nil))) da_nil))) (dg_name nd)
    (ds_cons (ds_set nd (de_call G_law_left (hr.mono (by omega)) rfl (da_cons (de_var 0) (da_cons (de_var 2) da_nil))))
  (ds_cons (ds_asg (de_ix (od_ix hu) (de_var 4) (de_call G_law_pick (hr.mono (by omega)) rfl (da_cons (de_var 1) (da_cons de_int da_nil)))) (dg_tup rfl (dgs_cons (dg_name nd) (dgs_cons (dg_name nd) (dgs_cons (dg_name nd) (dgs_cons (dg_name nd) dgs_nil))))))
  (ds_cons (ds_set nd (de_call G_law_row (hr.mono (by omega)) rfl (da_cons (de_var 1) (da_cons (de_var 5) (da_cons (de_var 3) da_nil)))))
  (ds_cons (ds_if (PW.pt (dw_and (dt_cmp (od_in hu) (de_var 9) (de_var 8)) (dw_and1 (dt_cmp (od_eq hu) (de_call G_law_pick (hr.mono (by omega)) rfl (da_cons (de_var 1) (da_cons de_int da_nil))) de_int))))
    (ds_cons (ds_expr (de_meth G_Shelf_take (hr.mono (by omega)) (de_var 7) (da_cons (de_var 9) da_nil)))
  (ds_one (ds_expr (de_mt PySem.F.plainAttrs_list PySem.F.slot_list_remove PySem.F.type_list_remove (md_remove hu) (de_var 8) (da_cons (de_var 9) da_nil)))))
    (ds_cons (ds_expr (de_meth G_Shelf_add (hr.mono (by omega)) (de_var 7) (da_cons (de_var 9) da_nil)))
  (ds_one (ds_if (dt_cmp (od_notIn hu) (de_var 9) (de_var 8))
    (ds_one (ds_expr (de_mt PySem.F.plainAttrs_list PySem.F.slot_list_append PySem.F.type_list_append md_append (de_var 8) (da_cons (de_var 9) da_nil))))
    ds_nil))))
  (ds_one (ds_if (dt_not (dt_truth (de_callB (cd_all rfl) T.b_all rfl (by decide +kernel) (da_cons (de_lc (own := [("held", 10)]) (g := (gName 10)) (own_name (by decide)) rfl nd (di_any (de_var 4)) (blkOk_by (own := [("held", 10)]) (N := n_law) (sc := (defScope s_law)) (by decide +kernel)) (fun _ _ _ _ _ => (pg_nm nd)) (fun _ _ _ _ _ => dts_nil) (fun _ _ _ _ _ => (de_call G_law_found_right (hr.mono (by omega)) rfl (da_cons (de_var 1) (da_cons (de_var 10) (da_cons (de_var 3) da_nil)))))) da_nil))))
    (ds_one (ds_ret de_bl))
    ds_nil)))))))
  (ds_one (ds_ret de_bl)))))))
end

structure All (K : PySem.W.Frag) (mg : Str → Option Value) : Prop where
  t : Txt K mg
  f_rank : ∃ f fd, Fun K "rank" "rank" s_rank f fd ∧ mg "rank" = some (.ref f) ∧ Binds K fd ["thing"] []
  f_ordered : ∃ f fd, Fun K "ordered" "ordered" s_ordered f fd ∧ mg "ordered" = some (.ref f) ∧ Binds K fd ["things"] []
  f_sorted_rows : ∃ f fd, Fun K "sorted_rows" "sorted_rows" s_sorted_rows f fd ∧ mg "sorted_rows" = some (.ref f) ∧ Binds K fd ["rows"] []
  f_Shelf___init__ : ∃ C f fd, Fun K "__init__" "Shelf.__init__" s_Shelf___init__ f fd ∧ mg "Shelf" = some (.ref C) ∧ Mk K C f ∧ Binds K fd ["self", "n", "orders"] []
  f_Shelf_keys_of : ∃ C f fd, Fun K "keys_of" "Shelf.keys_of" s_Shelf_keys_of f fd ∧ mg "Shelf" = some (.ref C) ∧ Cls K C ∧ Meth K C "keys_of" f ∧ Binds K fd ["self", "row"] []
  f_Shelf_add : ∃ C f fd, Fun K "add" "Shelf.add" s_Shelf_add f fd ∧ mg "Shelf" = some (.ref C) ∧ Cls K C ∧ Meth K C "add" f ∧ Binds K fd ["self", "row"] []
  f_Shelf_take : ∃ C f fd, Fun K "take" "Shelf.take" s_Shelf_take f fd ∧ mg "Shelf" = some (.ref C) ∧ Cls K C ∧ Meth K C "take" f ∧ Binds K fd ["self", "row"] []
  f_Shelf_rows : ∃ C f fd, Fun K "rows" "Shelf.rows" s_Shelf_rows f fd ∧ mg "Shelf" = some (.ref C) ∧ Cls K C ∧ Meth K C "rows" f ∧ Binds K fd ["self"] []
  f_Shelf_found : ∃ C f fd, Fun K "found" "Shelf.found" s_Shelf_found f fd ∧ mg "Shelf" = some (.ref C) ∧ Cls K C ∧ Meth K C "found" f ∧ Binds K fd ["self", "places", "things"] []
  f_law_cell_at : ∃ f fd, Fun K "_law_cell_at" "_law_cell_at" s_law_cell_at f fd ∧ mg "_law_cell_at" = some (.ref f) ∧ Binds K fd ["script", "k"] []
  f_law_left : ∃ f fd, Fun K "_law_left" "_law_left" s_law_left f fd ∧ mg "_law_left" = some (.ref f) ∧ Binds K fd ["script", "k"] []
  f_law_pick : ∃ f fd, Fun K "_law_pick" "_law_pick" s_law_pick f fd ∧ mg "_law_pick" = some (.ref f) ∧ Binds K fd ["left", "many"] []
  f_law_thing : ∃ f fd, Fun K "_law_thing" "_law_thing" s_law_thing f fd ∧ mg "_law_thing" = some (.ref f) ∧ Binds K fd ["left", "deep"] []
  f_law_rank : ∃ f fd, Fun K "_law_rank" "_law_rank" s_law_rank f fd ∧ mg "_law_rank" = some (.ref f) ∧ Binds K fd ["thing"] []
  f_law_row_rank : ∃ f fd, Fun K "_law_row_rank" "_law_row_rank" s_law_row_rank f fd ∧ mg "_law_row_rank" = some (.ref f) ∧ Binds K fd ["row"] []
  f_law_sorted : ∃ f fd, Fun K "_law_sorted" "_law_sorted" s_law_sorted f fd ∧ mg "_law_sorted" = some (.ref f) ∧ Binds K fd ["rows"] []
  f_law_orders_drawn : ∃ f fd, Fun K "_law_orders_drawn" "_law_orders_drawn" s_law_orders_drawn f fd ∧ mg "_law_orders_drawn" = some (.ref f) ∧ Binds K fd ["left", "size"] []
  f_law_row : ∃ f fd, Fun K "_law_row" "_law_row" s_law_row f fd ∧ mg "_law_row" = some (.ref f) ∧ Binds K fd ["left", "size", "some"] []
  f_law_told : ∃ f fd, Fun K "_law_told" "_law_told" s_law_told f fd ∧ mg "_law_told" = some (.ref f) ∧ Binds K fd ["found", "due"] []
  f_law_found_right : ∃ f fd, Fun K "_law_found_right" "_law_found_right" s_law_found_right f fd ∧ mg "_law_found_right" = some (.ref f) ∧ Binds K fd ["left", "held", "some"] []
section
variable {P : Program} {w : World} {K : PySem.W.Frag} {mg : Str → Option Value} {base : Heap}
theorem GG_rank (A : All K mg) : ∀ n : Nat, FnD P w K mg base (1 + n) "rank" (S_rank n)
  | 0 => (let ⟨f, fd, F, hf, hb⟩ := A.f_rank; (fn_never (k := 0) F sc_rank hf hb fun _ _ _ h => h))
  | n + 1 => let ih0 := GG_rank A n; (let ⟨f, fd, F, hf, hb⟩ := A.f_rank; ok_rank A.t F hf hb ih0 (sem_rank n))
theorem G_rank (A : All K mg) (n : Nat) : FnD P w K mg base (1 + n) "rank" (S_rank n) := (GG_rank A n)
theorem G_ordered (A : All K mg) : FnD P w K mg base 12 "ordered" S_ordered :=
  let ⟨f, fd, F, hf, hb⟩ := A.f_ordered; ok_ordered A.t F hf hb ((G_rank A _).mono (by omega)) sem_ordered
theorem G_sorted_rows (A : All K mg) : FnD P w K mg base 13 "sorted_rows" S_sorted_rows :=
  let ⟨f, fd, F, hf, hb⟩ := A.f_sorted_rows; ok_sorted_rows A.t F hf hb ((G_ordered A).mono (by omega)) sem_sorted_rows
theorem G_Shelf___init__ (A : All K mg) : InD P w K mg base 1 "Shelf" S_Shelf___init__ :=
  let ⟨C, f, fd, F, hC, hm, hb⟩ := A.f_Shelf___init__; ok_Shelf___init__ A.t F hC hm hb sem_Shelf___init__
theorem G_Shelf_keys_of (A : All K mg) : MeD P w K mg base 1 "Shelf" "keys_of" S_Shelf_keys_of :=
  let ⟨C, f, fd, F, hC, cl, hm, hb⟩ := A.f_Shelf_keys_of; ok_Shelf_keys_of A.t F hC cl hm hb sem_Shelf_keys_of
theorem G_Shelf_add (A : All K mg) : MeD P w K mg base 2 "Shelf" "add" S_Shelf_add :=
  let ⟨C, f, fd, F, hC, cl, hm, hb⟩ := A.f_Shelf_add; ok_Shelf_add A.t F hC cl hm hb ((G_Shelf_keys_of A).mono (by omega)) sem_Shelf_add
theorem G_Shelf_take (A : All K mg) : MeD P w K mg base 2 "Shelf" "take" S_Shelf_take :=
  let ⟨C, f, fd, F, hC, cl, hm, hb⟩ := A.f_Shelf_take; ok_Shelf_take A.t F hC cl hm hb ((G_Shelf_keys_of A).mono (by omega)) sem_Shelf_take
theorem G_Shelf_rows (A : All K mg) : MeD P w K mg base 14 "Shelf" "rows" S_Shelf_rows :=
  let ⟨C, f, fd, F, hC, cl, hm, hb⟩ := A.f_Shelf_rows; ok_Shelf_rows A.t F hC cl hm hb ((G_sorted_rows A).mono (by omega)) sem_Shelf_rows
theorem G_Shelf_found (A : All K mg) : MeD P w K mg base 14 "Shelf" "found" S_Shelf_found :=
  let ⟨C, f, fd, F, hC, cl, hm, hb⟩ := A.f_Shelf_found; ok_Shelf_found A.t F hC cl hm hb ((G_sorted_rows A).mono (by omega)) sem_Shelf_found
theorem G_law_cell_at (A : All K mg) : FnD P w K mg base 1 "_law_cell_at" S_law_cell_at :=
  let ⟨f, fd, F, hf, hb⟩ := A.f_law_cell_at; ok_law_cell_at A.t F hf hb sem_law_cell_at
theorem G_law_left (A : All K mg) : FnD P w K mg base 2 "_law_left" S_law_left :=
  let ⟨f, fd, F, hf, hb⟩ := A.f_law_left; ok_law_left A.t F hf hb ((G_law_cell_at A).mono (by omega)) sem_law_left
theorem G_law_pick (A : All K mg) : FnD P w K mg base 1 "_law_pick" S_law_pick :=
  let ⟨f, fd, F, hf, hb⟩ := A.f_law_pick; ok_law_pick A.t F hf hb sem_law_pick
theorem GG_law_thing (A : All K mg) : ∀ n : Nat, FnD P w K mg base (2 + n) "_law_thing" (S_law_thing n)
  | 0 => (let ⟨f, fd, F, hf, hb⟩ := A.f_law_thing; (fn_never (k := 1) F sc_law_thing hf hb fun _ _ _ h => h))
  | n + 1 => let ih0 := GG_law_thing A n; (let ⟨f, fd, F, hf, hb⟩ := A.f_law_thing; ok_law_thing A.t F hf hb ((G_law_pick A).mono (by omega)) ih0 (sem_law_thing n))
theorem G_law_thing (A : All K mg) (n : Nat) : FnD P w K mg base (2 + n) "_law_thing" (S_law_thing n) := (GG_law_thing A n)
theorem GG_law_rank (A : All K mg) : ∀ n : Nat, FnD P w K mg base (1 + n) "_law_rank" (S_law_rank n)
  | 0 => (let ⟨f, fd, F, hf, hb⟩ := A.f_law_rank; (fn_never (k := 0) F sc_law_rank hf hb fun _ _ _ h => h))
  | n + 1 => let ih0 := GG_law_rank A n; (let ⟨f, fd, F, hf, hb⟩ := A.f_law_rank; ok_law_rank A.t F hf hb ih0 (sem_law_rank n))
theorem G_law_rank (A : All K mg) (n : Nat) : FnD P w K mg base (1 + n) "_law_rank" (S_law_rank n) := (GG_law_rank A n)
theorem G_law_row_rank (A : All K mg) : FnD P w K mg base 10 "_law_row_rank" S_law_row_rank :=
  let ⟨f, fd, F, hf, hb⟩ := A.f_law_row_rank; ok_law_row_rank A.t F hf hb ((G_law_rank A _).mono (by omega)) sem_law_row_rank
theorem G_law_sorted (A : All K mg) : FnD P w K mg base 13 "_law_sorted" S_law_sorted :=
  let ⟨f, fd, F, hf, hb⟩ := A.f_law_sorted; ok_law_sorted A.t F hf hb ((G_law_row_rank A).mono (by omega)) sem_law_sorted
theorem G_law_orders_drawn (A : All K mg) : FnD P w K mg base 2 "_law_orders_drawn" S_law_orders_drawn :=
  let ⟨f, fd, F, hf, hb⟩ := A.f_law_orders_drawn; ok_law_orders_drawn A.t F hf hb ((G_law_pick A).mono (by omega)) sem_law_orders_drawn
theorem G_law_row (A : All K mg) : FnD P w K mg base 2 "_law_row" S_law_row :=
  let ⟨f, fd, F, hf, hb⟩ := A.f_law_row; ok_law_row A.t F hf hb ((G_law_pick A).mono (by omega)) sem_law_row
theorem G_law_told (A : All K mg) : FnD P w K mg base 1 "_law_told" S_law_told :=
  let ⟨f, fd, F, hf, hb⟩ := A.f_law_told; ok_law_told A.t F hf hb sem_law_told
theorem G_law_found_right (A : All K mg) : FnD P w K mg base 15 "_law_found_right" S_law_found_right :=
  let ⟨f, fd, F, hf, hb⟩ := A.f_law_found_right; ok_law_found_right A.t F hf hb ((G_law_pick A).mono (by omega)) ((G_law_row A).mono (by omega)) ((G_Shelf_found A).mono (by omega)) ((G_law_told A).mono (by omega)) ((G_law_sorted A).mono (by omega)) sem_law_found_right
end
theorem all_mk {l : PySem.W.OpenLaw} {w : World} {K : PySem.W.Frag} {h : Heap} {mg : Str → Option Value} {fa : Addr} (X : K.In h) (G : h.Ns mainGlobals mg) (hfa : mg "law" = some (.ref fa))
    {C_Shelf : Addr}
    {f_rank : Addr} {od_rank an_rank : Option Addr} {sl_rank : Array (Option Value)} {oc_rank kV_rank dc_rank pm_rank cd_rank ct_rank : Value}
    {f_ordered : Addr} {od_ordered an_ordered : Option Addr} {sl_ordered : Array (Option Value)} {oc_ordered kV_ordered dc_ordered pm_ordered cd_ordered ct_ordered : Value}
    {f_sorted_rows : Addr} {od_sorted_rows an_sorted_rows : Option Addr} {sl_sorted_rows : Array (Option Value)} {oc_sorted_rows kV_sorted_rows dc_sorted_rows pm_sorted_rows cd_sorted_rows ct_sorted_rows : Value}
    {f_Shelf___init__ : Addr} {od_Shelf___init__ an_Shelf___init__ : Option Addr} {sl_Shelf___init__ : Array (Option Value)} {oc_Shelf___init__ kV_Shelf___init__ dc_Shelf___init__ pm_Shelf___init__ cd_Shelf___init__ ct_Shelf___init__ : Value}
    {f_Shelf_keys_of : Addr} {od_Shelf_keys_of an_Shelf_keys_of : Option Addr} {sl_Shelf_keys_of : Array (Option Value)} {oc_Shelf_keys_of kV_Shelf_keys_of dc_Shelf_keys_of pm_Shelf_keys_of cd_Shelf_keys_of ct_Shelf_keys_of : Value}
    {f_Shelf_add : Addr} {od_Shelf_add an_Shelf_add : Option Addr} {sl_Shelf_add : Array (Option Value)} {oc_Shelf_add kV_Shelf_add dc_Shelf_add pm_Shelf_add cd_Shelf_add ct_Shelf_add : Value}
    {f_Shelf_take : Addr} {od_Shelf_take an_Shelf_take : Option Addr} {sl_Shelf_take : Array (Option Value)} {oc_Shelf_take kV_Shelf_take dc_Shelf_take pm_Shelf_take cd_Shelf_take ct_Shelf_take : Value}
    {f_Shelf_rows : Addr} {od_Shelf_rows an_Shelf_rows : Option Addr} {sl_Shelf_rows : Array (Option Value)} {oc_Shelf_rows kV_Shelf_rows dc_Shelf_rows pm_Shelf_rows cd_Shelf_rows ct_Shelf_rows : Value}
    {f_Shelf_found : Addr} {od_Shelf_found an_Shelf_found : Option Addr} {sl_Shelf_found : Array (Option Value)} {oc_Shelf_found kV_Shelf_found dc_Shelf_found pm_Shelf_found cd_Shelf_found ct_Shelf_found : Value}
    {f_law_cell_at : Addr} {od_law_cell_at an_law_cell_at : Option Addr} {sl_law_cell_at : Array (Option Value)} {oc_law_cell_at kV_law_cell_at dc_law_cell_at pm_law_cell_at cd_law_cell_at ct_law_cell_at : Value}
    {f_law_left : Addr} {od_law_left an_law_left : Option Addr} {sl_law_left : Array (Option Value)} {oc_law_left kV_law_left dc_law_left pm_law_left cd_law_left ct_law_left : Value}
    {f_law_pick : Addr} {od_law_pick an_law_pick : Option Addr} {sl_law_pick : Array (Option Value)} {oc_law_pick kV_law_pick dc_law_pick pm_law_pick cd_law_pick ct_law_pick : Value}
    {f_law_thing : Addr} {od_law_thing an_law_thing : Option Addr} {sl_law_thing : Array (Option Value)} {oc_law_thing kV_law_thing dc_law_thing pm_law_thing cd_law_thing ct_law_thing : Value}
    {f_law_rank : Addr} {od_law_rank an_law_rank : Option Addr} {sl_law_rank : Array (Option Value)} {oc_law_rank kV_law_rank dc_law_rank pm_law_rank cd_law_rank ct_law_rank : Value}
    {f_law_row_rank : Addr} {od_law_row_rank an_law_row_rank : Option Addr} {sl_law_row_rank : Array (Option Value)} {oc_law_row_rank kV_law_row_rank dc_law_row_rank pm_law_row_rank cd_law_row_rank ct_law_row_rank : Value}
    {f_law_sorted : Addr} {od_law_sorted an_law_sorted : Option Addr} {sl_law_sorted : Array (Option Value)} {oc_law_sorted kV_law_sorted dc_law_sorted pm_law_sorted cd_law_sorted ct_law_sorted : Value}
    {f_law_orders_drawn : Addr} {od_law_orders_drawn an_law_orders_drawn : Option Addr} {sl_law_orders_drawn : Array (Option Value)} {oc_law_orders_drawn kV_law_orders_drawn dc_law_orders_drawn pm_law_orders_drawn cd_law_orders_drawn ct_law_orders_drawn : Value}
    {f_law_row : Addr} {od_law_row an_law_row : Option Addr} {sl_law_row : Array (Option Value)} {oc_law_row kV_law_row dc_law_row pm_law_row cd_law_row ct_law_row : Value}
    {f_law_told : Addr} {od_law_told an_law_told : Option Addr} {sl_law_told : Array (Option Value)} {oc_law_told kV_law_told dc_law_told pm_law_told cd_law_told ct_law_told : Value}
    {f_law_found_right : Addr} {od_law_found_right an_law_found_right : Option Addr} {sl_law_found_right : Array (Option Value)} {oc_law_found_right kV_law_found_right dc_law_found_right pm_law_found_right cd_law_found_right ct_law_found_right : Value}
    {f_law : Addr} {od_law an_law : Option Addr} {sl_law : Array (Option Value)} {oc_law kV_law dc_law pm_law cd_law ct_law : Value}
    (ca_Shelf : PySem.W.nsIn K mainGlobals "Shelf" = some (some (.ref C_Shelf))) (pg_Shelf : PySem.W.plainGet K C_Shelf Str.empty = true) (hd_Shelf : PySem.W.hasDictIn K C_Shelf = true) (po_Shelf : PySem.W.plainOver K C_Shelf = true) (sa_Shelf : PySem.W.findIn K (.ref C_Shelf) "__setattr__" = some (some (.builtin "object.__setattr__")))
    (mk_Shelf : PySem.W.makesIn K C_Shelf = true) (kc_Shelf : PySem.W.keepIn K (.ref C_Shelf) = true)
    (na_Shelf_beginnings : PySem.W.findIn K (.ref C_Shelf) "beginnings" = some none)
    (na_Shelf_by : PySem.W.findIn K (.ref C_Shelf) "by" = some none)
    (na_Shelf_kept : PySem.W.findIn K (.ref C_Shelf) "kept" = some none)
    (na_Shelf_many : PySem.W.findIn K (.ref C_Shelf) "many" = some none)
    (a_rank : PySem.W.nsIn K mainGlobals "rank" = some (some (.ref f_rank))) (l_rank : K.lookup f_rank = some ⟨oc_rank, od_rank, .func (PySem.W.fnOf "rank" "rank" (defArgs s_rank) (defBody s_rank) (defScope s_rank) .none kV_rank dc_rank pm_rank an_rank cd_rank ct_rank), sl_rank⟩) (c_rank : PySem.W.codeIn K cd_rank "rank" = true) (k_rank : PySem.W.keepIn K (.ref f_rank) = true)
    (a_ordered : PySem.W.nsIn K mainGlobals "ordered" = some (some (.ref f_ordered))) (l_ordered : K.lookup f_ordered = some ⟨oc_ordered, od_ordered, .func (PySem.W.fnOf "ordered" "ordered" (defArgs s_ordered) (defBody s_ordered) (defScope s_ordered) .none kV_ordered dc_ordered pm_ordered an_ordered cd_ordered ct_ordered), sl_ordered⟩) (c_ordered : PySem.W.codeIn K cd_ordered "ordered" = true) (k_ordered : PySem.W.keepIn K (.ref f_ordered) = true)
    (a_sorted_rows : PySem.W.nsIn K mainGlobals "sorted_rows" = some (some (.ref f_sorted_rows))) (l_sorted_rows : K.lookup f_sorted_rows = some ⟨oc_sorted_rows, od_sorted_rows, .func (PySem.W.fnOf "sorted_rows" "sorted_rows" (defArgs s_sorted_rows) (defBody s_sorted_rows) (defScope s_sorted_rows) .none kV_sorted_rows dc_sorted_rows pm_sorted_rows an_sorted_rows cd_sorted_rows ct_sorted_rows), sl_sorted_rows⟩) (c_sorted_rows : PySem.W.codeIn K cd_sorted_rows "sorted_rows" = true) (k_sorted_rows : PySem.W.keepIn K (.ref f_sorted_rows) = true)
    (a_Shelf___init__ : PySem.W.findIn K (.ref C_Shelf) "__init__" = some (some (.ref f_Shelf___init__))) (i_Shelf___init__ : PySem.W.isFn K (.ref f_Shelf___init__) = true) (l_Shelf___init__ : K.lookup f_Shelf___init__ = some ⟨oc_Shelf___init__, od_Shelf___init__, .func (PySem.W.fnOf "__init__" "Shelf.__init__" (defArgs s_Shelf___init__) (defBody s_Shelf___init__) (defScope s_Shelf___init__) .none kV_Shelf___init__ dc_Shelf___init__ pm_Shelf___init__ an_Shelf___init__ cd_Shelf___init__ ct_Shelf___init__), sl_Shelf___init__⟩) (c_Shelf___init__ : PySem.W.codeIn K cd_Shelf___init__ "Shelf.__init__" = true) (k_Shelf___init__ : PySem.W.keepIn K (.ref f_Shelf___init__) = true)
    (a_Shelf_keys_of : PySem.W.findIn K (.ref C_Shelf) "keys_of" = some (some (.ref f_Shelf_keys_of))) (i_Shelf_keys_of : PySem.W.isFn K (.ref f_Shelf_keys_of) = true) (l_Shelf_keys_of : K.lookup f_Shelf_keys_of = some ⟨oc_Shelf_keys_of, od_Shelf_keys_of, .func (PySem.W.fnOf "keys_of" "Shelf.keys_of" (defArgs s_Shelf_keys_of) (defBody s_Shelf_keys_of) (defScope s_Shelf_keys_of) .none kV_Shelf_keys_of dc_Shelf_keys_of pm_Shelf_keys_of an_Shelf_keys_of cd_Shelf_keys_of ct_Shelf_keys_of), sl_Shelf_keys_of⟩) (c_Shelf_keys_of : PySem.W.codeIn K cd_Shelf_keys_of "Shelf.keys_of" = true) (k_Shelf_keys_of : PySem.W.keepIn K (.ref f_Shelf_keys_of) = true)
    (a_Shelf_add : PySem.W.findIn K (.ref C_Shelf) "add" = some (some (.ref f_Shelf_add))) (i_Shelf_add : PySem.W.isFn K (.ref f_Shelf_add) = true) (l_Shelf_add : K.lookup f_Shelf_add = some ⟨oc_Shelf_add, od_Shelf_add, .func (PySem.W.fnOf "add" "Shelf.add" (defArgs s_Shelf_add) (defBody s_Shelf_add) (defScope s_Shelf_add) .none kV_Shelf_add dc_Shelf_add pm_Shelf_add an_Shelf_add cd_Shelf_add ct_Shelf_add), sl_Shelf_add⟩) (c_Shelf_add : PySem.W.codeIn K cd_Shelf_add "Shelf.add" = true) (k_Shelf_add : PySem.W.keepIn K (.ref f_Shelf_add) = true)
    (a_Shelf_take : PySem.W.findIn K (.ref C_Shelf) "take" = some (some (.ref f_Shelf_take))) (i_Shelf_take : PySem.W.isFn K (.ref f_Shelf_take) = true) (l_Shelf_take : K.lookup f_Shelf_take = some ⟨oc_Shelf_take, od_Shelf_take, .func (PySem.W.fnOf "take" "Shelf.take" (defArgs s_Shelf_take) (defBody s_Shelf_take) (defScope s_Shelf_take) .none kV_Shelf_take dc_Shelf_take pm_Shelf_take an_Shelf_take cd_Shelf_take ct_Shelf_take), sl_Shelf_take⟩) (c_Shelf_take : PySem.W.codeIn K cd_Shelf_take "Shelf.take" = true) (k_Shelf_take : PySem.W.keepIn K (.ref f_Shelf_take) = true)
    (a_Shelf_rows : PySem.W.findIn K (.ref C_Shelf) "rows" = some (some (.ref f_Shelf_rows))) (i_Shelf_rows : PySem.W.isFn K (.ref f_Shelf_rows) = true) (l_Shelf_rows : K.lookup f_Shelf_rows = some ⟨oc_Shelf_rows, od_Shelf_rows, .func (PySem.W.fnOf "rows" "Shelf.rows" (defArgs s_Shelf_rows) (defBody s_Shelf_rows) (defScope s_Shelf_rows) .none kV_Shelf_rows dc_Shelf_rows pm_Shelf_rows an_Shelf_rows cd_Shelf_rows ct_Shelf_rows), sl_Shelf_rows⟩) (c_Shelf_rows : PySem.W.codeIn K cd_Shelf_rows "Shelf.rows" = true) (k_Shelf_rows : PySem.W.keepIn K (.ref f_Shelf_rows) = true)
    (a_Shelf_found : PySem.W.findIn K (.ref C_Shelf) "found" = some (some (.ref f_Shelf_found))) (i_Shelf_found : PySem.W.isFn K (.ref f_Shelf_found) = true) (l_Shelf_found : K.lookup f_Shelf_found = some ⟨oc_Shelf_found, od_Shelf_found, .func (PySem.W.fnOf "found" "Shelf.found" (defArgs s_Shelf_found) (defBody s_Shelf_found) (defScope s_Shelf_found) .none kV_Shelf_found dc_Shelf_found pm_Shelf_found an_Shelf_found cd_Shelf_found ct_Shelf_found), sl_Shelf_found⟩) (c_Shelf_found : PySem.W.codeIn K cd_Shelf_found "Shelf.found" = true) (k_Shelf_found : PySem.W.keepIn K (.ref f_Shelf_found) = true)
    (a_law_cell_at : PySem.W.nsIn K mainGlobals "_law_cell_at" = some (some (.ref f_law_cell_at))) (l_law_cell_at : K.lookup f_law_cell_at = some ⟨oc_law_cell_at, od_law_cell_at, .func (PySem.W.fnOf "_law_cell_at" "_law_cell_at" (defArgs s_law_cell_at) (defBody s_law_cell_at) (defScope s_law_cell_at) .none kV_law_cell_at dc_law_cell_at pm_law_cell_at an_law_cell_at cd_law_cell_at ct_law_cell_at), sl_law_cell_at⟩) (c_law_cell_at : PySem.W.codeIn K cd_law_cell_at "_law_cell_at" = true) (k_law_cell_at : PySem.W.keepIn K (.ref f_law_cell_at) = true)
    (a_law_left : PySem.W.nsIn K mainGlobals "_law_left" = some (some (.ref f_law_left))) (l_law_left : K.lookup f_law_left = some ⟨oc_law_left, od_law_left, .func (PySem.W.fnOf "_law_left" "_law_left" (defArgs s_law_left) (defBody s_law_left) (defScope s_law_left) .none kV_law_left dc_law_left pm_law_left an_law_left cd_law_left ct_law_left), sl_law_left⟩) (c_law_left : PySem.W.codeIn K cd_law_left "_law_left" = true) (k_law_left : PySem.W.keepIn K (.ref f_law_left) = true)
    (a_law_pick : PySem.W.nsIn K mainGlobals "_law_pick" = some (some (.ref f_law_pick))) (l_law_pick : K.lookup f_law_pick = some ⟨oc_law_pick, od_law_pick, .func (PySem.W.fnOf "_law_pick" "_law_pick" (defArgs s_law_pick) (defBody s_law_pick) (defScope s_law_pick) .none kV_law_pick dc_law_pick pm_law_pick an_law_pick cd_law_pick ct_law_pick), sl_law_pick⟩) (c_law_pick : PySem.W.codeIn K cd_law_pick "_law_pick" = true) (k_law_pick : PySem.W.keepIn K (.ref f_law_pick) = true)
    (a_law_thing : PySem.W.nsIn K mainGlobals "_law_thing" = some (some (.ref f_law_thing))) (l_law_thing : K.lookup f_law_thing = some ⟨oc_law_thing, od_law_thing, .func (PySem.W.fnOf "_law_thing" "_law_thing" (defArgs s_law_thing) (defBody s_law_thing) (defScope s_law_thing) .none kV_law_thing dc_law_thing pm_law_thing an_law_thing cd_law_thing ct_law_thing), sl_law_thing⟩) (c_law_thing : PySem.W.codeIn K cd_law_thing "_law_thing" = true) (k_law_thing : PySem.W.keepIn K (.ref f_law_thing) = true)
    (a_law_rank : PySem.W.nsIn K mainGlobals "_law_rank" = some (some (.ref f_law_rank))) (l_law_rank : K.lookup f_law_rank = some ⟨oc_law_rank, od_law_rank, .func (PySem.W.fnOf "_law_rank" "_law_rank" (defArgs s_law_rank) (defBody s_law_rank) (defScope s_law_rank) .none kV_law_rank dc_law_rank pm_law_rank an_law_rank cd_law_rank ct_law_rank), sl_law_rank⟩) (c_law_rank : PySem.W.codeIn K cd_law_rank "_law_rank" = true) (k_law_rank : PySem.W.keepIn K (.ref f_law_rank) = true)
    (a_law_row_rank : PySem.W.nsIn K mainGlobals "_law_row_rank" = some (some (.ref f_law_row_rank))) (l_law_row_rank : K.lookup f_law_row_rank = some ⟨oc_law_row_rank, od_law_row_rank, .func (PySem.W.fnOf "_law_row_rank" "_law_row_rank" (defArgs s_law_row_rank) (defBody s_law_row_rank) (defScope s_law_row_rank) .none kV_law_row_rank dc_law_row_rank pm_law_row_rank an_law_row_rank cd_law_row_rank ct_law_row_rank), sl_law_row_rank⟩) (c_law_row_rank : PySem.W.codeIn K cd_law_row_rank "_law_row_rank" = true) (k_law_row_rank : PySem.W.keepIn K (.ref f_law_row_rank) = true)
    (a_law_sorted : PySem.W.nsIn K mainGlobals "_law_sorted" = some (some (.ref f_law_sorted))) (l_law_sorted : K.lookup f_law_sorted = some ⟨oc_law_sorted, od_law_sorted, .func (PySem.W.fnOf "_law_sorted" "_law_sorted" (defArgs s_law_sorted) (defBody s_law_sorted) (defScope s_law_sorted) .none kV_law_sorted dc_law_sorted pm_law_sorted an_law_sorted cd_law_sorted ct_law_sorted), sl_law_sorted⟩) (c_law_sorted : PySem.W.codeIn K cd_law_sorted "_law_sorted" = true) (k_law_sorted : PySem.W.keepIn K (.ref f_law_sorted) = true)
    (a_law_orders_drawn : PySem.W.nsIn K mainGlobals "_law_orders_drawn" = some (some (.ref f_law_orders_drawn))) (l_law_orders_drawn : K.lookup f_law_orders_drawn = some ⟨oc_law_orders_drawn, od_law_orders_drawn, .func (PySem.W.fnOf "_law_orders_drawn" "_law_orders_drawn" (defArgs s_law_orders_drawn) (defBody s_law_orders_drawn) (defScope s_law_orders_drawn) .none kV_law_orders_drawn dc_law_orders_drawn pm_law_orders_drawn an_law_orders_drawn cd_law_orders_drawn ct_law_orders_drawn), sl_law_orders_drawn⟩) (c_law_orders_drawn : PySem.W.codeIn K cd_law_orders_drawn "_law_orders_drawn" = true) (k_law_orders_drawn : PySem.W.keepIn K (.ref f_law_orders_drawn) = true)
    (a_law_row : PySem.W.nsIn K mainGlobals "_law_row" = some (some (.ref f_law_row))) (l_law_row : K.lookup f_law_row = some ⟨oc_law_row, od_law_row, .func (PySem.W.fnOf "_law_row" "_law_row" (defArgs s_law_row) (defBody s_law_row) (defScope s_law_row) .none kV_law_row dc_law_row pm_law_row an_law_row cd_law_row ct_law_row), sl_law_row⟩) (c_law_row : PySem.W.codeIn K cd_law_row "_law_row" = true) (k_law_row : PySem.W.keepIn K (.ref f_law_row) = true)
    (a_law_told : PySem.W.nsIn K mainGlobals "_law_told" = some (some (.ref f_law_told))) (l_law_told : K.lookup f_law_told = some ⟨oc_law_told, od_law_told, .func (PySem.W.fnOf "_law_told" "_law_told" (defArgs s_law_told) (defBody s_law_told) (defScope s_law_told) .none kV_law_told dc_law_told pm_law_told an_law_told cd_law_told ct_law_told), sl_law_told⟩) (c_law_told : PySem.W.codeIn K cd_law_told "_law_told" = true) (k_law_told : PySem.W.keepIn K (.ref f_law_told) = true)
    (a_law_found_right : PySem.W.nsIn K mainGlobals "_law_found_right" = some (some (.ref f_law_found_right))) (l_law_found_right : K.lookup f_law_found_right = some ⟨oc_law_found_right, od_law_found_right, .func (PySem.W.fnOf "_law_found_right" "_law_found_right" (defArgs s_law_found_right) (defBody s_law_found_right) (defScope s_law_found_right) .none kV_law_found_right dc_law_found_right pm_law_found_right an_law_found_right cd_law_found_right ct_law_found_right), sl_law_found_right⟩) (c_law_found_right : PySem.W.codeIn K cd_law_found_right "_law_found_right" = true) (k_law_found_right : PySem.W.keepIn K (.ref f_law_found_right) = true)
    (a_law : PySem.W.nsIn K mainGlobals "law" = some (some (.ref f_law))) (l_law : K.lookup f_law = some ⟨oc_law, od_law, .func (PySem.W.fnOf "law" "law" (defArgs s_law) (defBody s_law) (defScope s_law) .none kV_law dc_law pm_law an_law cd_law ct_law), sl_law⟩) (c_law : PySem.W.codeIn K cd_law "law" = true) (k_law : PySem.W.keepIn K (.ref f_law) = true)
    (zb_all : PySem.W.nsIn K mainGlobals "all" = some none)
    (zb_dict : PySem.W.nsIn K mainGlobals "dict" = some none)
    (zb_enumerate : PySem.W.nsIn K mainGlobals "enumerate" = some none)
    (zb_int : PySem.W.nsIn K mainGlobals "int" = some none)
    (zb_isinstance : PySem.W.nsIn K mainGlobals "isinstance" = some none)
    (zb_len : PySem.W.nsIn K mainGlobals "len" = some none)
    (zb_list : PySem.W.nsIn K mainGlobals "list" = some none)
    (zb_max : PySem.W.nsIn K mainGlobals "max" = some none)
    (zb_min : PySem.W.nsIn K mainGlobals "min" = some none)
    (zb_range : PySem.W.nsIn K mainGlobals "range" = some none)
    (zb_sorted : PySem.W.nsIn K mainGlobals "sorted" = some none)
    (zb_tuple : PySem.W.nsIn K mainGlobals "tuple" = some none)
    (zb_zip : PySem.W.nsIn K mainGlobals "zip" = some none) :
    ∃ fd : FuncData, (∀ (s : Shared) (u : Value), BindsTo s fd ⟨[u], []⟩ [("script", u)]) ∧ ∀ base : Heap, K.In base → base.Ns mainGlobals mg → FnG l.prog w K mg base CX0 17 fa fd ["script"] (spD w K mg S_law) := by
  have e := hfa.symm.trans (PySem.W.mg_of X G a_law)
  cases e
  have T : Txt K mg := ⟨PySem.W.mg_none_of X G zb_all, PySem.W.mg_none_of X G zb_dict, PySem.W.mg_none_of X G zb_enumerate, PySem.W.mg_none_of X G zb_int, PySem.W.mg_none_of X G zb_isinstance, PySem.W.mg_none_of X G zb_len, PySem.W.mg_none_of X G zb_list, PySem.W.mg_none_of X G zb_max, PySem.W.mg_none_of X G zb_min, PySem.W.mg_none_of X G zb_range, PySem.W.mg_none_of X G zb_sorted, PySem.W.mg_none_of X G zb_tuple, PySem.W.mg_none_of X G zb_zip, (fun C h => by cases h.symm.trans (PySem.W.mg_of X G ca_Shelf); exact ⟨pg_Shelf, hd_Shelf, po_Shelf, sa_Shelf⟩), (fun C h => by cases h.symm.trans (PySem.W.mg_of X G ca_Shelf); exact na_Shelf_beginnings), (fun C h => by cases h.symm.trans (PySem.W.mg_of X G ca_Shelf); exact na_Shelf_by), (fun C h => by cases h.symm.trans (PySem.W.mg_of X G ca_Shelf); exact na_Shelf_kept), (fun C h => by cases h.symm.trans (PySem.W.mg_of X G ca_Shelf); exact na_Shelf_many)⟩
  have F_rank := fun_mk (st := s_rank) l_rank c_rank k_rank
  have B_rank := F_rank.binds (ps := ["thing"]) fun _ _ _ _ _ _ us hl => match us, hl with | [_], _ => rfl
  have F_ordered := fun_mk (st := s_ordered) l_ordered c_ordered k_ordered
  have B_ordered := F_ordered.binds (ps := ["things"]) fun _ _ _ _ _ _ us hl => match us, hl with | [_], _ => rfl
  have F_sorted_rows := fun_mk (st := s_sorted_rows) l_sorted_rows c_sorted_rows k_sorted_rows
  have B_sorted_rows := F_sorted_rows.binds (ps := ["rows"]) fun _ _ _ _ _ _ us hl => match us, hl with | [_], _ => rfl
  have F_Shelf___init__ := fun_mk (st := s_Shelf___init__) l_Shelf___init__ c_Shelf___init__ k_Shelf___init__
  have B_Shelf___init__ := F_Shelf___init__.binds (ps := ["self", "n", "orders"]) fun _ _ _ _ _ _ us hl => match us, hl with | [_, _, _], _ => rfl
  have F_Shelf_keys_of := fun_mk (st := s_Shelf_keys_of) l_Shelf_keys_of c_Shelf_keys_of k_Shelf_keys_of
  have B_Shelf_keys_of := F_Shelf_keys_of.binds (ps := ["self", "row"]) fun _ _ _ _ _ _ us hl => match us, hl with | [_, _], _ => rfl
  have F_Shelf_add := fun_mk (st := s_Shelf_add) l_Shelf_add c_Shelf_add k_Shelf_add
  have B_Shelf_add := F_Shelf_add.binds (ps := ["self", "row"]) fun _ _ _ _ _ _ us hl => match us, hl with | [_, _], _ => rfl
  have F_Shelf_take := fun_mk (st := s_Shelf_take) l_Shelf_take c_Shelf_take k_Shelf_take
  have B_Shelf_take := F_Shelf_take.binds (ps := ["self", "row"]) fun _ _ _ _ _ _ us hl => match us, hl with | [_, _], _ => rfl
  have F_Shelf_rows := fun_mk (st := s_Shelf_rows) l_Shelf_rows c_Shelf_rows k_Shelf_rows
  have B_Shelf_rows := F_Shelf_rows.binds (ps := ["self"]) fun _ _ _ _ _ _ us hl => match us, hl with | [_], _ => rfl
  have F_Shelf_found := fun_mk (st := s_Shelf_found) l_Shelf_found c_Shelf_found k_Shelf_found
  have B_Shelf_found := F_Shelf_found.binds (ps := ["self", "places", "things"]) fun _ _ _ _ _ _ us hl => match us, hl with | [_, _, _], _ => rfl
  have F_law_cell_at := fun_mk (st := s_law_cell_at) l_law_cell_at c_law_cell_at k_law_cell_at
  have B_law_cell_at := F_law_cell_at.binds (ps := ["script", "k"]) fun _ _ _ _ _ _ us hl => match us, hl with | [_, _], _ => rfl
  have F_law_left := fun_mk (st := s_law_left) l_law_left c_law_left k_law_left
  have B_law_left := F_law_left.binds (ps := ["script", "k"]) fun _ _ _ _ _ _ us hl => match us, hl with | [_, _], _ => rfl
  have F_law_pick := fun_mk (st := s_law_pick) l_law_pick c_law_pick k_law_pick
  have B_law_pick := F_law_pick.binds (ps := ["left", "many"]) fun _ _ _ _ _ _ us hl => match us, hl with | [_, _], _ => rfl
  have F_law_thing := fun_mk (st := s_law_thing) l_law_thing c_law_thing k_law_thing
  have B_law_thing := F_law_thing.binds (ps := ["left", "deep"]) fun _ _ _ _ _ _ us hl => match us, hl with | [_, _], _ => rfl
  have F_law_rank := fun_mk (st := s_law_rank) l_law_rank c_law_rank k_law_rank
  have B_law_rank := F_law_rank.binds (ps := ["thing"]) fun _ _ _ _ _ _ us hl => match us, hl with | [_], _ => rfl
  have F_law_row_rank := fun_mk (st := s_law_row_rank) l_law_row_rank c_law_row_rank k_law_row_rank
  have B_law_row_rank := F_law_row_rank.binds (ps := ["row"]) fun _ _ _ _ _ _ us hl => match us, hl with | [_], _ => rfl
  have F_law_sorted := fun_mk (st := s_law_sorted) l_law_sorted c_law_sorted k_law_sorted
  have B_law_sorted := F_law_sorted.binds (ps := ["rows"]) fun _ _ _ _ _ _ us hl => match us, hl with | [_], _ => rfl
  have F_law_orders_drawn := fun_mk (st := s_law_orders_drawn) l_law_orders_drawn c_law_orders_drawn k_law_orders_drawn
  have B_law_orders_drawn := F_law_orders_drawn.binds (ps := ["left", "size"]) fun _ _ _ _ _ _ us hl => match us, hl with | [_, _], _ => rfl
  have F_law_row := fun_mk (st := s_law_row) l_law_row c_law_row k_law_row
  have B_law_row := F_law_row.binds (ps := ["left", "size", "some"]) fun _ _ _ _ _ _ us hl => match us, hl with | [_, _, _], _ => rfl
  have F_law_told := fun_mk (st := s_law_told) l_law_told c_law_told k_law_told
  have B_law_told := F_law_told.binds (ps := ["found", "due"]) fun _ _ _ _ _ _ us hl => match us, hl with | [_, _], _ => rfl
  have F_law_found_right := fun_mk (st := s_law_found_right) l_law_found_right c_law_found_right k_law_found_right
  have B_law_found_right := F_law_found_right.binds (ps := ["left", "held", "some"]) fun _ _ _ _ _ _ us hl => match us, hl with | [_, _, _], _ => rfl
  have A : All K mg := ⟨T, ⟨_, _, F_rank, PySem.W.mg_of X G a_rank, B_rank⟩, ⟨_, _, F_ordered, PySem.W.mg_of X G a_ordered, B_ordered⟩, ⟨_, _, F_sorted_rows, PySem.W.mg_of X G a_sorted_rows, B_sorted_rows⟩, ⟨_, _, _, F_Shelf___init__, PySem.W.mg_of X G ca_Shelf, ⟨mk_Shelf, a_Shelf___init__, i_Shelf___init__, kc_Shelf⟩, B_Shelf___init__⟩, ⟨_, _, _, F_Shelf_keys_of, PySem.W.mg_of X G ca_Shelf, ⟨pg_Shelf, hd_Shelf, po_Shelf, sa_Shelf⟩, ⟨a_Shelf_keys_of, i_Shelf_keys_of, k_Shelf_keys_of⟩, B_Shelf_keys_of⟩, ⟨_, _, _, F_Shelf_add, PySem.W.mg_of X G ca_Shelf, ⟨pg_Shelf, hd_Shelf, po_Shelf, sa_Shelf⟩, ⟨a_Shelf_add, i_Shelf_add, k_Shelf_add⟩, B_Shelf_add⟩, ⟨_, _, _, F_Shelf_take, PySem.W.mg_of X G ca_Shelf, ⟨pg_Shelf, hd_Shelf, po_Shelf, sa_Shelf⟩, ⟨a_Shelf_take, i_Shelf_take, k_Shelf_take⟩, B_Shelf_take⟩, ⟨_, _, _, F_Shelf_rows, PySem.W.mg_of X G ca_Shelf, ⟨pg_Shelf, hd_Shelf, po_Shelf, sa_Shelf⟩, ⟨a_Shelf_rows, i_Shelf_rows, k_Shelf_rows⟩, B_Shelf_rows⟩, ⟨_, _, _, F_Shelf_found, PySem.W.mg_of X G ca_Shelf, ⟨pg_Shelf, hd_Shelf, po_Shelf, sa_Shelf⟩, ⟨a_Shelf_found, i_Shelf_found, k_Shelf_found⟩, B_Shelf_found⟩, ⟨_, _, F_law_cell_at, PySem.W.mg_of X G a_law_cell_at, B_law_cell_at⟩, ⟨_, _, F_law_left, PySem.W.mg_of X G a_law_left, B_law_left⟩, ⟨_, _, F_law_pick, PySem.W.mg_of X G a_law_pick, B_law_pick⟩, ⟨_, _, F_law_thing, PySem.W.mg_of X G a_law_thing, B_law_thing⟩, ⟨_, _, F_law_rank, PySem.W.mg_of X G a_law_rank, B_law_rank⟩, ⟨_, _, F_law_row_rank, PySem.W.mg_of X G a_law_row_rank, B_law_row_rank⟩, ⟨_, _, F_law_sorted, PySem.W.mg_of X G a_law_sorted, B_law_sorted⟩, ⟨_, _, F_law_orders_drawn, PySem.W.mg_of X G a_law_orders_drawn, B_law_orders_drawn⟩, ⟨_, _, F_law_row, PySem.W.mg_of X G a_law_row, B_law_row⟩, ⟨_, _, F_law_told, PySem.W.mg_of X G a_law_told, B_law_told⟩, ⟨_, _, F_law_found_right, PySem.W.mg_of X G a_law_found_right, B_law_found_right⟩⟩
  exact ⟨PySem.W.fnOf "law" "law" (defArgs s_law) (defBody s_law) (defScope s_law) .none kV_law dc_law pm_law an_law cd_law ct_law, fun s v => .of_eq rfl, fun base _ _ =>
    ok_law (k := 15) T (fun_mk (st := s_law) l_law c_law k_law) ((G_law_left A).mono (by omega)) ((G_law_pick A).mono (by omega)) ((G_law_thing A _).mono (by omega)) ((G_law_orders_drawn A).mono (by omega)) ((G_Shelf___init__ A).mono (by omega)) ((G_law_row A).mono (by omega)) ((G_Shelf_take A).mono (by omega)) ((G_Shelf_add A).mono (by omega)) ((G_law_found_right A).mono (by omega)) sem_law⟩
theorem walk {l : PySem.W.OpenLaw} {q : Program} {loose : List Str} {XP : (Str → Option Value) → Heap → Prop} {YP : World → Heap → Prop} {d : DefRec} {K : Params → PySem.W.Frag} (hn : l.most = some 63) (hdf : d.params.defaults = [])
    (hY : ∀ (w : World) (h : Heap), YP w h → (K w.params).In h)
    (F : ∀ (w : World) (mg : Str → Option Value) (fa : Addr) (h : Heap), (K w.params).In h → h.Ns mainGlobals mg → mg d.name = some (.ref fa) →
      ∃ fd : FuncData, (∀ (s : Shared) (u : Value), BindsTo s fd ⟨[u], []⟩ [("script", u)]) ∧ ∀ base : Heap, (K w.params).In base → base.Ns mainGlobals mg → FnG l.prog w (K w.params) mg base CX0 17 fa fd ["script"] (spD w (K w.params) mg S_law)) :
    PySem.W.WalkO q loose XP YP l.row.toRowW d [] (fun f vs => PySem.call f vs) :=
  Dl.walk_mk (n := 63) (k := 17) (x := "script") hn (by decide) hdf ⟨⟨rfl, by decide, by decide⟩, rfl⟩ hY F fun ns h => ⟨ns, rfl, h, fun _ => rfl⟩
end Kk46
open PySem PySem.W PyProof.Rows in
set_option maxRecDepth 100000 in
set_option maxHeartbeats 0 in
theorem PySem.Challenge.cw_reasonkeep_k46_rows_found_holds : PySem.Challenge.rw_reasonkeep_k46_rows_found.Holds := by
  w_on; o_law; k_head; (case hw => w_witness2)
  k_fill
  refine Kk46.walk (l := PySem.Challenge.rw_reasonkeep_k46_rows_found) rfl rfl (fun w h Y => PySem.W.kIn_of Y) ?F
  case F =>
    intro w mg fa h KX G hmg
    refine' Kk46.all_mk KX G hmg ?ca_Shelf ?pg_Shelf ?hd_Shelf ?po_Shelf ?sa_Shelf ?mk_Shelf ?kc_Shelf ?na_Shelf_beginnings ?na_Shelf_by ?na_Shelf_kept ?na_Shelf_many ?a_rank ?l_rank ?c_rank ?k_rank ?a_ordered ?l_ordered ?c_ordered ?k_ordered ?a_sorted_rows ?l_sorted_rows ?c_sorted_rows ?k_sorted_rows ?a_Shelf___init__ ?i_Shelf___init__ ?l_Shelf___init__ ?c_Shelf___init__ ?k_Shelf___init__ ?a_Shelf_keys_of ?i_Shelf_keys_of ?l_Shelf_keys_of ?c_Shelf_keys_of ?k_Shelf_keys_of ?a_Shelf_add ?i_Shelf_add ?l_Shelf_add ?c_Shelf_add ?k_Shelf_add ?a_Shelf_take ?i_Shelf_take ?l_Shelf_take ?c_Shelf_take ?k_Shelf_take ?a_Shelf_rows ?i_Shelf_rows ?l_Shelf_rows ?c_Shelf_rows ?k_Shelf_rows ?a_Shelf_found ?i_Shelf_found ?l_Shelf_found ?c_Shelf_found ?k_Shelf_found ?a_law_cell_at ?l_law_cell_at ?c_law_cell_at ?k_law_cell_at ?a_law_left ?l_law_left ?c_law_left ?k_law_left ?a_law_pick ?l_law_pick ?c_law_pick ?k_law_pick ?a_law_thing ?l_law_thing ?c_law_thing ?k_law_thing ?a_law_rank ?l_law_rank ?c_law_rank ?k_law_rank ?a_law_row_rank ?l_law_row_rank ?c_law_row_rank ?k_law_row_rank ?a_law_sorted ?l_law_sorted ?c_law_sorted ?k_law_sorted ?a_law_orders_drawn ?l_law_orders_drawn ?c_law_orders_drawn ?k_law_orders_drawn ?a_law_row ?l_law_row ?c_law_row ?k_law_row ?a_law_told ?l_law_told ?c_law_told ?k_law_told ?a_law_found_right ?l_law_found_right ?c_law_found_right ?k_law_found_right ?a_law ?l_law ?c_law ?k_law ?zb_all ?zb_dict ?zb_enumerate ?zb_int ?zb_isinstance ?zb_len ?zb_list ?zb_max ?zb_min ?zb_range ?zb_sorted ?zb_tuple ?zb_zip
    (case ca_Shelf => k_is)
    (case pg_Shelf => k_is)
    (case hd_Shelf => k_is)
    (case po_Shelf => k_is)
    (case sa_Shelf => k_is)
    (case mk_Shelf => k_is)
    (case kc_Shelf => k_is)
    (case na_Shelf_beginnings => k_is)
    (case na_Shelf_by => k_is)
    (case na_Shelf_kept => k_is)
    (case na_Shelf_many => k_is)
    (case a_rank => k_is)
    (case l_rank => k_is)
    (case c_rank => k_is)
    (case k_rank => k_is)
    (case a_ordered => k_is)
    (case l_ordered => k_is)
    (case c_ordered => k_is)
    (case k_ordered => k_is)
    (case a_sorted_rows => k_is)
    (case l_sorted_rows => k_is)
    (case c_sorted_rows => k_is)
    (case k_sorted_rows => k_is)
    (case a_Shelf___init__ => k_is)
    (case i_Shelf___init__ => k_is)
    (case l_Shelf___init__ => k_is)
    (case c_Shelf___init__ => k_is)
    (case k_Shelf___init__ => k_is)
    (case a_Shelf_keys_of => k_is)
    (case i_Shelf_keys_of => k_is)
    (case l_Shelf_keys_of => k_is)
    (case c_Shelf_keys_of => k_is)
    (case k_Shelf_keys_of => k_is)
    (case a_Shelf_add => k_is)
    (case i_Shelf_add => k_is)
    (case l_Shelf_add => k_is)
    (case c_Shelf_add => k_is)
    (case k_Shelf_add => k_is)
    (case a_Shelf_take => k_is)
    (case i_Shelf_take => k_is)
    (case l_Shelf_take => k_is)
    (case c_Shelf_take => k_is)
    (case k_Shelf_take => k_is)
    (case a_Shelf_rows => k_is)
    (case i_Shelf_rows => k_is)
    (case l_Shelf_rows => k_is)
    (case c_Shelf_rows => k_is)
    (case k_Shelf_rows => k_is)
    (case a_Shelf_found => k_is)
    (case i_Shelf_found => k_is)
    (case l_Shelf_found => k_is)
    (case c_Shelf_found => k_is)
    (case k_Shelf_found => k_is)
    (case a_law_cell_at => k_is)
    (case l_law_cell_at => k_is)
    (case c_law_cell_at => k_is)
    (case k_law_cell_at => k_is)
    (case a_law_left => k_is)
    (case l_law_left => k_is)
    (case c_law_left => k_is)
    (case k_law_left => k_is)
    (case a_law_pick => k_is)
    (case l_law_pick => k_is)
    (case c_law_pick => k_is)
    (case k_law_pick => k_is)
    (case a_law_thing => k_is)
    (case l_law_thing => k_is)
    (case c_law_thing => k_is)
    (case k_law_thing => k_is)
    (case a_law_rank => k_is)
    (case l_law_rank => k_is)
    (case c_law_rank => k_is)
    (case k_law_rank => k_is)
    (case a_law_row_rank => k_is)
    (case l_law_row_rank => k_is)
    (case c_law_row_rank => k_is)
    (case k_law_row_rank => k_is)
    (case a_law_sorted => k_is)
    (case l_law_sorted => k_is)
    (case c_law_sorted => k_is)
    (case k_law_sorted => k_is)
    (case a_law_orders_drawn => k_is)
    (case l_law_orders_drawn => k_is)
    (case c_law_orders_drawn => k_is)
    (case k_law_orders_drawn => k_is)
    (case a_law_row => k_is)
    (case l_law_row => k_is)
    (case c_law_row => k_is)
    (case k_law_row => k_is)
    (case a_law_told => k_is)
    (case l_law_told => k_is)
    (case c_law_told => k_is)
    (case k_law_told => k_is)
    (case a_law_found_right => k_is)
    (case l_law_found_right => k_is)
    (case c_law_found_right => k_is)
    (case k_law_found_right => k_is)
    (case a_law => k_is)
    (case l_law => k_is)
    (case c_law => k_is)
    (case k_law => k_is)
    (case zb_all => k_is)
    (case zb_dict => k_is)
    (case zb_enumerate => k_is)
    (case zb_int => k_is)
    (case zb_isinstance => k_is)
    (case zb_len => k_is)
    (case zb_list => k_is)
    (case zb_max => k_is)
    (case zb_min => k_is)
    (case zb_range => k_is)
    (case zb_sorted => k_is)
    (case zb_tuple => k_is)
    (case zb_zip => k_is)
