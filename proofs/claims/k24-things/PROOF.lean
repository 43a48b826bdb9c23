import PyProof.Rows.All
import Wide.All
import OpenK.AllK
import Wide.FinOn
import HandS.ForMost
import PySem.Challenge.RW_reasonkeep_k24_things_that_are_no_bars
import HandS.Zip
import HandS.Wide
import HandS.IsInst
import HandS.Flow
import HandS.TupAny
import HandS.Rev
import HandS.RevRange
import HandS.More
import HandS.StrMore
import KE.KDictKeyed
import KE.KDictWalk
import HandS.Iter
import HandS.Dict
import PyProof.Rows.TupDisplay
import PyProof.DictTruth
import HandS.TupLen
import PyProof.DictMoreH
import HandS.SortInts
import HandS.List
import HandS.Text
import HandS.RaiseMore
import KE.KxText
import KE.LtSeq
import HandS.DictTup
import PyProof.ReprRoads
import PyProof.ReprBulk
import PyProof.FitsInt
import KE.KDictOf
import PyProof.DictKinds
import KE.KDictCopyH
import HandS.SortOrd
import PyProof.Rows.SortStr
import PyProof.Rows.SortKeyStr
import KE.KSortTup
import KE.KSortKey
import PyProof.TupleOfSeq
import KE.KDictSum
import HandS.SortKw
import HandS.SetFor
import KE.KDictZip
import KE.GoesEnum
import HandS.TupMul
import PyProof.MeetsDictList
import PyProof.NeKinds
import HandS.Style
set_option Elab.async false
set_option linter.all false
set_option autoImplicit false
set_option maxRecDepth 100000
set_option maxHeartbeats 4000000

namespace Dl
open PySem L2

/-! ## values and stores -/
inductive D where
  | non | bl (b : Bool) | int (i : Int) | str (x : Str) | tup (ds : List D) | fls (ds : List D) | loc (l : Nat)
instance : Inhabited D := ⟨.non⟩
inductive O where
  | lst (xs : List D) | dct (ep : Nat) (kvs : List (D × D)) | ins (c : Str) (fs : List (Str × D))
abbrev Sto := List O

/-- a frozen list: the script, or one of the module; a tuple -/
def FlsAt (K : PySem.W.Frag) (H : Hp) (a : Addr) (vs : List V) : Prop := (∃ o, H a = some (.frz o (.lst vs))) ∨ SqL K (fun _ => none) a vs
def TupAt (K : PySem.W.Frag) (H : Hp) (a : Addr) (vs : List V) : Prop := H a = some (.tup vs) ∨ SqT K (fun _ => none) a vs
theorem FlsAt.sq {K : PySem.W.Frag} {H : Hp} {a : Addr} {vs : List V} (h : FlsAt K H a vs) : SqL K H a vs := by
  rcases h with ⟨o, h⟩ | h
  · exact .inl (.inr ⟨o, h⟩)
  · rcases h with (z | ⟨_, z⟩) | z
    · cases z
    · cases z
    · exact .inr z
theorem TupAt.sq {K : PySem.W.Frag} {H : Hp} {a : Addr} {vs : List V} (h : TupAt K H a vs) : SqT K H a vs := by
  rcases h with h | h
  · exact SqT.of h
  · rcases h with (z | ⟨_, z⟩) | z
    · cases z
    · cases z
    · exact .inr z

mutual
def VR (K : PySem.W.Frag) (ρ : List Addr) (H : Hp) : D → V → Prop
  | .non, v => v = .non
  | .bl b, v => v = .bl b
  | .int i, v => v = .int i
  | .str x, v => v = .str x
  | .tup ds, v => ∃ a vs, v = .ref a ∧ TupAt K H a vs ∧ VRs K ρ H ds vs
  | .fls ds, v => ∃ a vs, v = .ref a ∧ FlsAt K H a vs ∧ VRs K ρ H ds vs
  | .loc l, v => ∃ a, ρ[l]? = some a ∧ v = .ref a
def VRs (K : PySem.W.Frag) (ρ : List Addr) (H : Hp) : List D → List V → Prop
  | [], vs => vs = []
  | d :: ds, vs => ∃ v vr, vs = v :: vr ∧ VR K ρ H d v ∧ VRs K ρ H ds vr
end

/-- a key of a dict -/
def keyOf : D → Option NestedKey
  | .non => some .none
  | .bl b => some (.num (if b then 1 else 0))
  | .int i => some (.num i)
  | .str x => some (.text x)
  | .tup ds => (keysOf ds).map .tup
  | .fls _ => none
  | .loc _ => none
where keysOf : List D → Option (List NestedKey)
  | [] => some []
  | d :: ds => match keyOf d, keysOf ds with
    | some k, some ks => some (k :: ks)
    | _, _ => none

/-- what must hold so that the world (addresses ρ of the store's objects, abstract heap H) bears the object o at a -/
def EntR (w : World) (K : PySem.W.Frag) (ρ : List Addr) (H : Hp) (p : D × D) (e : DictEntry) : Prop :=
  ∃ k kv dv, keyOf p.1 = some k ∧ k.depth ≤ 8 ∧ e.hash = k.hash w ∧ VR K ρ H p.1 kv ∧ RelV kv e.key ∧ VR K ρ H p.2 dv ∧ RelV dv e.val
def DictObj (a : Addr) (es : Array DictEntry) (ep : Nat) (h : Heap) : Prop := ∃ o, h.get? a = some o ∧ o.ExactDict ∧ o.data = .dict es ep
def OR (w : World) (K : PySem.W.Frag) (mg : Str → Option Value) (ρ : List Addr) (H : Hp) (a : Addr) : O → Prop
  | .lst xs => ∃ vs, H a = some (.lst vs) ∧ VRs K ρ H xs vs
  | .dct ep kvs => (a == sysModules) = false ∧ kvs.length ≤ sizeLine ∧ (kvs.map fun p => keyOf p.1).Nodup ∧
      ∃ es, H a = some (.ext (DictObj a es ep)) ∧ Paired (EntR w K ρ H) kvs es.toList
  | .ins c fs => ∃ C dx vfs, H a = some (.ins C dx vfs) ∧ mg c = some (.ref C) ∧ Paired (fun p q => p.1 = q.1 ∧ VR K ρ H p.2 q.2) fs vfs

/-- the world bears the store -/
structure Wd (w : World) (K : PySem.W.Frag) (mg : Str → Option Value) (ρ : List Addr) (S : Sto) (H : Hp) : Prop where
  len : ρ.length = S.length
  nodup : ρ.Nodup
  obj : ∀ (l : Nat) (a : Addr) (o : O), ρ[l]? = some a → S[l]? = some o → OR w K mg ρ H a o

/-- the world has gone on: what is not the store's stays, the store's objects keep their addresses -/
structure Ext (ρ : List Addr) (H : Hp) (ρ' : List Addr) (H' : Hp) : Prop where
  pre : ∃ more, ρ' = ρ ++ more ∧ ∀ a ∈ more, H a = none
  keep : ∀ a o, H a = some o → a ∉ ρ → H' a = some o

theorem Ext.refl (ρ : List Addr) (H : Hp) : Ext ρ H ρ H := ⟨⟨[], by simp, by simp⟩, fun _ _ h _ => h⟩
theorem Ext.get {ρ ρ' : List Addr} {H H' : Hp} (e : Ext ρ H ρ' H') {l : Nat} {a : Addr} (h : ρ[l]? = some a) : ρ'[l]? = some a := by
  obtain ⟨more, rfl, _⟩ := e.pre
  rw [List.getElem?_append_left (List.getElem?_eq_some_iff.mp h).1]
  exact h
/-- the store's objects are none of the tuples and frozen things -/
def Sep (ρ : List Addr) (H : Hp) : Prop := ∀ a ∈ ρ, ∃ o, H a = some o ∧ (∀ vs, o ≠ .tup vs) ∧ ∀ u x, o ≠ .frz u x
theorem Wd.sep {w : World} {K : PySem.W.Frag} {mg : Str → Option Value} {ρ : List Addr} {S : Sto} {H : Hp} (W : Wd w K mg ρ S H) : Sep ρ H := by
  intro a ha
  obtain ⟨l, hl, e⟩ := List.mem_iff_getElem.mp ha
  have h1 : ρ[l]? = some a := by rw [List.getElem?_eq_getElem hl, e]
  have hS : l < S.length := by rw [← W.len]; exact hl
  have h2 := W.obj l a S[l] h1 (List.getElem?_eq_getElem hS)
  cases hO : S[l] with
  | lst xs =>
    rw [hO] at h2
    obtain ⟨vs, h, _⟩ := h2
    exact ⟨_, h, (fun vs q => by cases q), (fun u x q => by cases q)⟩
  | dct ep kvs =>
    rw [hO] at h2
    obtain ⟨_, _, _, es, h, _⟩ := h2
    exact ⟨_, h, (fun vs q => by cases q), (fun u x q => by cases q)⟩
  | ins c fs =>
    rw [hO] at h2
    obtain ⟨C, dx, vfs, h, _⟩ := h2
    exact ⟨_, h, (fun vs q => by cases q), (fun u x q => by cases q)⟩
theorem Sep.tup {ρ : List Addr} {H : Hp} (s : Sep ρ H) {a : Addr} {vs : List V} (h : H a = some (.tup vs)) : a ∉ ρ := fun ha => by
  obtain ⟨o, h1, h2, _⟩ := s a ha
  rw [h] at h1
  exact h2 vs (Option.some.inj h1).symm
theorem Sep.frz {ρ : List Addr} {H : Hp} (s : Sep ρ H) {a : Addr} {u : Obj} {x : HO} (h : H a = some (.frz u x)) : a ∉ ρ := fun ha => by
  obtain ⟨o, h1, _, h2⟩ := s a ha
  rw [h] at h1
  exact h2 u x (Option.some.inj h1).symm
theorem Ext.trans {ρ ρ1 ρ2 : List Addr} {H H1 H2 : Hp} (s : Sep ρ1 H1) (a : Ext ρ H ρ1 H1) (b : Ext ρ1 H1 ρ2 H2) : Ext ρ H ρ2 H2 := by
  obtain ⟨m1, rfl, n1⟩ := a.pre
  obtain ⟨m2, rfl, n2⟩ := b.pre
  have nin : ∀ c o, H c = some o → c ∉ ρ → c ∉ ρ ++ m1 := fun c o hc hr hm => by
    rcases List.mem_append.mp hm with z | z
    · exact hr z
    · rw [n1 c z] at hc
      cases hc
  refine ⟨⟨m1 ++ m2, by rw [List.append_assoc], fun c hc => ?_⟩, fun c o hc hr => b.keep c o (a.keep c o hc hr) (nin c o hc hr)⟩
  rcases List.mem_append.mp hc with z | z
  · exact n1 c z
  · cases q : H c with
    | none => rfl
    | some o =>
      by_cases hr : c ∈ ρ
      · obtain ⟨o', h1, _⟩ := s c (List.mem_append_left _ hr)
        rw [n2 c z] at h1
        cases h1
      · have := a.keep c o q hr
        rw [n2 c z] at this
        cases this

theorem TupAt.keep {K : PySem.W.Frag} {H H' : Hp} {a : Addr} {vs : List V} (h : TupAt K H a vs) (k : H a = some (.tup vs) → H' a = some (.tup vs)) : TupAt K H' a vs := h.imp k id
theorem FlsAt.keep {K : PySem.W.Frag} {H H' : Hp} {a : Addr} {vs : List V} (h : FlsAt K H a vs) (k : ∀ o, H a = some (.frz o (.lst vs)) → H' a = some (.frz o (.lst vs))) : FlsAt K H' a vs := by
  rcases h with ⟨o, h⟩ | h
  · exact .inl ⟨o, k o h⟩
  · exact .inr h
/-- what values lean on -/
structure VX (ρ : List Addr) (H : Hp) (ρ' : List Addr) (H' : Hp) : Prop where
  get : ∀ (l : Nat) (a : Addr), ρ[l]? = some a → ρ'[l]? = some a
  tup : ∀ a vs, H a = some (.tup vs) → H' a = some (.tup vs)
  frz : ∀ a o u, H a = some (.frz o u) → H' a = some (.frz o u)
theorem Ext.vx {ρ ρ' : List Addr} {H H' : Hp} (s : Sep ρ H) (e : Ext ρ H ρ' H') : VX ρ H ρ' H' :=
  ⟨fun _ _ h => e.get h, fun a vs h => e.keep a _ h (s.tup h), fun a o u h => e.keep a _ h (s.frz h)⟩
theorem vx_upd {ρ : List Addr} {H : Hp} {a : Addr} {u : HO} {o : HO} (h : H a = some o) (h1 : ∀ vs, o ≠ .tup vs) (h2 : ∀ x y, o ≠ .frz x y) : VX ρ H ρ (upd H a u) :=
  ⟨fun _ _ h => h, fun b vs e => by
    rw [upd_ne (ne_of e h (fun z => h1 vs z.symm))]
    exact e, fun b x y e => by
    rw [upd_ne (ne_of e h (fun z => h2 x y z.symm))]
    exact e⟩
mutual
theorem VR.vx {K : PySem.W.Frag} {ρ ρ' : List Addr} {H H' : Hp} (e : VX ρ H ρ' H') : ∀ (d : D) (v : V), VR K ρ H d v → VR K ρ' H' d v
  | .non, v, h => by unfold VR at h ⊢; exact h
  | .bl b, v, h => by unfold VR at h ⊢; exact h
  | .int i, v, h => by unfold VR at h ⊢; exact h
  | .str x, v, h => by unfold VR at h ⊢; exact h
  | .tup ds, v, h => by
    unfold VR at h ⊢
    obtain ⟨a, vs, h1, h2, h3⟩ := h
    exact ⟨a, vs, h1, h2.keep fun q => e.tup a _ q, VRs.vx e ds vs h3⟩
  | .fls ds, v, h => by
    unfold VR at h ⊢
    obtain ⟨a, vs, h1, h2, h3⟩ := h
    exact ⟨a, vs, h1, h2.keep fun o q => e.frz a _ _ q, VRs.vx e ds vs h3⟩
  | .loc l, v, h => by
    unfold VR at h ⊢
    obtain ⟨a, h1, h2⟩ := h
    exact ⟨a, e.get _ _ h1, h2⟩
theorem VRs.vx {K : PySem.W.Frag} {ρ ρ' : List Addr} {H H' : Hp} (e : VX ρ H ρ' H') : ∀ (ds : List D) (vs : List V), VRs K ρ H ds vs → VRs K ρ' H' ds vs
  | [], vs, h => by unfold VRs at h ⊢; exact h
  | d :: ds, vs, h => by
    unfold VRs at h ⊢
    obtain ⟨v, vr, h1, h2, h3⟩ := h
    exact ⟨v, vr, h1, VR.vx e d v h2, VRs.vx e ds vr h3⟩
end
theorem VR.ext {K : PySem.W.Frag} {ρ ρ' : List Addr} {H H' : Hp} (s : Sep ρ H) (e : Ext ρ H ρ' H') (d : D) (v : V) (h : VR K ρ H d v) : VR K ρ' H' d v := VR.vx (e.vx s) d v h
theorem VRs.ext {K : PySem.W.Frag} {ρ ρ' : List Addr} {H H' : Hp} (s : Sep ρ H) (e : Ext ρ H ρ' H') (ds : List D) (vs : List V) (h : VRs K ρ H ds vs) : VRs K ρ' H' ds vs := VRs.vx (e.vx s) ds vs h

theorem VRs.nil {K : PySem.W.Frag} {ρ : List Addr} {H : Hp} : VRs K ρ H [] [] := by unfold VRs; rfl
theorem VRs.cons {K : PySem.W.Frag} {ρ : List Addr} {H : Hp} {d : D} {ds : List D} {v : V} {vs : List V} (h : VR K ρ H d v) (t : VRs K ρ H ds vs) : VRs K ρ H (d :: ds) (v :: vs) := by
  unfold VRs
  exact ⟨v, vs, rfl, h, t⟩
theorem VRs.length {K : PySem.W.Frag} {ρ : List Addr} {H : Hp} : ∀ {ds : List D} {vs : List V}, VRs K ρ H ds vs → vs.length = ds.length
  | [], vs, h => by unfold VRs at h; subst h; rfl
  | d :: ds, vs, h => by
    unfold VRs at h
    obtain ⟨v, vr, rfl, _, h3⟩ := h
    simp [VRs.length h3]
theorem VRs.get {K : PySem.W.Frag} {ρ : List Addr} {H : Hp} : ∀ {ds : List D} {vs : List V} {i : Nat} {d : D}, VRs K ρ H ds vs → ds[i]? = some d → ∃ v, vs[i]? = some v ∧ VR K ρ H d v
  | [], _, _, _, _, e => by simp at e
  | d :: ds, vs, i, x, h, e => by
    unfold VRs at h
    obtain ⟨v, vr, rfl, h2, h3⟩ := h
    cases i with
    | zero =>
      simp at e
      subst e
      exact ⟨v, rfl, h2⟩
    | succ i =>
      obtain ⟨v', h4, h5⟩ := VRs.get (i := i) (d := x) h3 (by simpa using e)
      exact ⟨v', by simpa using h4, h5⟩
theorem VRs.append {K : PySem.W.Frag} {ρ : List Addr} {H : Hp} : ∀ {ds es : List D} {vs us : List V}, VRs K ρ H ds vs → VRs K ρ H es us → VRs K ρ H (ds ++ es) (vs ++ us)
  | [], _, _, _, h, t => by
    unfold VRs at h
    subst h
    exact t
  | d :: ds, es, vs, us, h, t => by
    unfold VRs at h
    obtain ⟨v, vr, rfl, h2, h3⟩ := h
    exact VRs.cons h2 (VRs.append h3 t)
theorem VRs.snoc {K : PySem.W.Frag} {ρ : List Addr} {H : Hp} {ds : List D} {d : D} {vs : List V} {v : V} (h : VRs K ρ H ds vs) (t : VR K ρ H d v) : VRs K ρ H (ds ++ [d]) (vs ++ [v]) := h.append (.cons t .nil)
theorem VRs.drop {K : PySem.W.Frag} {ρ : List Addr} {H : Hp} : ∀ {ds : List D} {vs : List V} (n : Nat), VRs K ρ H ds vs → VRs K ρ H (ds.drop n) (vs.drop n)
  | _, _, 0, h => h
  | [], vs, n + 1, h => by
    unfold VRs at h
    subst h
    exact VRs.nil
  | d :: ds, vs, n + 1, h => by
    unfold VRs at h
    obtain ⟨v, vr, rfl, h2, h3⟩ := h
    exact VRs.drop n h3
theorem VRs.take {K : PySem.W.Frag} {ρ : List Addr} {H : Hp} : ∀ {ds : List D} {vs : List V} (n : Nat), VRs K ρ H ds vs → VRs K ρ H (ds.take n) (vs.take n)
  | _, _, 0, h => VRs.nil
  | [], vs, n + 1, h => by
    unfold VRs at h
    subst h
    exact VRs.nil
  | d :: ds, vs, n + 1, h => by
    unfold VRs at h
    obtain ⟨v, vr, rfl, h2, h3⟩ := h
    exact VRs.cons h2 (VRs.take n h3)
theorem VRs.set {K : PySem.W.Frag} {ρ : List Addr} {H : Hp} {d : D} {v : V} (r : VR K ρ H d v) : ∀ {ds : List D} {vs : List V} (n : Nat), VRs K ρ H ds vs → VRs K ρ H (ds.set n d) (vs.set n v)
  | [], vs, n, h => by
    unfold VRs at h
    subst h
    exact VRs.nil
  | d :: ds, vs, 0, h => by
    unfold VRs at h
    obtain ⟨v, vr, rfl, h2, h3⟩ := h
    exact VRs.cons r h3
  | d :: ds, vs, n + 1, h => by
    unfold VRs at h
    obtain ⟨v, vr, rfl, h2, h3⟩ := h
    exact VRs.cons h2 (VRs.set r n h3)

theorem EntR.vx {w : World} {K : PySem.W.Frag} {ρ ρ' : List Addr} {H H' : Hp} (x : VX ρ H ρ' H') {p : D × D} {e : DictEntry} (h : EntR w K ρ H p e) : EntR w K ρ' H' p e := by
  obtain ⟨k, kv, dv, h1, h2, h3, h4, h5, h6, h7⟩ := h
  exact ⟨k, kv, dv, h1, h2, h3, VR.vx x _ _ h4, h5, VR.vx x _ _ h6, h7⟩
theorem OR.vx {w : World} {K : PySem.W.Frag} {mg : Str → Option Value} {ρ ρ' : List Addr} {H H' : Hp} {a : Addr} {o : O} (x : VX ρ H ρ' H') (k : ∀ u, H a = some u → H' a = some u) (h : OR w K mg ρ H a o) : OR w K mg ρ' H' a o := by
  cases o with
  | lst xs =>
    obtain ⟨vs, h1, h2⟩ := h
    exact ⟨vs, k _ h1, VRs.vx x _ _ h2⟩
  | dct ep kvs =>
    obtain ⟨h1, h2, h3, es, h4, h5⟩ := h
    exact ⟨h1, h2, h3, es, k _ h4, Paired.mapP h5 fun p q z => z.vx x⟩
  | ins c fs =>
    obtain ⟨C, dx, vfs, h1, h2, h3⟩ := h
    exact ⟨C, dx, vfs, k _ h1, h2, Paired.mapP h3 fun p q z => ⟨z.1, VR.vx x _ _ z.2⟩⟩
theorem OR.ext {w : World} {K : PySem.W.Frag} {mg : Str → Option Value} {ρ ρ' : List Addr} {H H' : Hp} {a : Addr} {o : O} (s : Sep ρ H) (x : Ext ρ H ρ' H') (k : ∀ u, H a = some u → H' a = some u) (h : OR w K mg ρ H a o) : OR w K mg ρ' H' a o := h.vx (x.vx s) k

section
variable {w : World} {K : PySem.W.Frag} {mg : Str → Option Value} {ρ ρ' : List Addr} {S : Sto} {H H' : Hp} {a p : Addr} {l : Nat}
theorem Wd.tracked (W : Wd w K mg ρ S H) (h : ρ[l]? = some a) : ∃ o, S[l]? = some o ∧ OR w K mg ρ H a o ∧ ∃ u, H a = some u := by
  have hl : l < S.length := by
    rw [← W.len]
    exact (List.getElem?_eq_some_iff.mp h).1
  have h2 := W.obj l a S[l] h (List.getElem?_eq_getElem hl)
  obtain ⟨u, hu, _⟩ := W.sep a (List.mem_of_getElem? h)
  exact ⟨_, List.getElem?_eq_getElem hl, h2, u, hu⟩
theorem Wd.at (W : Wd w K mg ρ S H) {o : O} (h : S[l]? = some o) : ∃ a, ρ[l]? = some a ∧ OR w K mg ρ H a o := by
  have hl : l < ρ.length := by
    rw [W.len]
    exact (List.getElem?_eq_some_iff.mp h).1
  exact ⟨_, List.getElem?_eq_getElem hl, W.obj _ _ _ (List.getElem?_eq_getElem hl) h⟩
theorem Wd.notin (W : Wd w K mg ρ S H) (h : H p = none) : p ∉ ρ := fun hp => by
  obtain ⟨u, hu, _⟩ := W.sep p hp
  rw [h] at hu
  cases hu
/-- all that was tracked is kept -/
theorem ext_same (k : ∀ b o, H b = some o → H' b = some o) : Ext ρ H ρ H' := ⟨⟨[], by simp, by simp⟩, fun b o h _ => k b o h⟩
theorem keep_upd {u : HO} (h : H p = none) : ∀ b o, H b = some o → upd H p u b = some o := fun b o e => by
  rw [upd_ne (ne_of_none e h)]
  exact e
theorem ext_new {u : HO} (h : H p = none) : Ext ρ H ρ (upd H p u) := ext_same (keep_upd h)
theorem Wd.same (W : Wd w K mg ρ S H) (k : ∀ b o, H b = some o → H' b = some o) : Wd w K mg ρ S H' :=
  ⟨W.len, W.nodup, fun l a o h1 h2 => (W.obj l a o h1 h2).ext W.sep (ext_same k) fun u q => k a u q⟩
theorem Wd.laid {u : HO} (W : Wd w K mg ρ S H) (h : H p = none) : Wd w K mg ρ S (upd H p u) := W.same (keep_upd h)
theorem ext_alloc {u : HO} (h : H p = none) : Ext ρ H (ρ ++ [p]) (upd H p u) :=
  ⟨⟨[p], rfl, fun c hc => by
    have e : c = p := by simpa using hc
    rw [e, h]⟩, fun b o e _ => keep_upd h b o e⟩
/-- a new object of the store -/
theorem Wd.alloc {u : HO} {o : O} (W : Wd w K mg ρ S H) (h : H p = none) (new : OR w K mg (ρ ++ [p]) (upd H p u) p o) : Wd w K mg (ρ ++ [p]) (S ++ [o]) (upd H p u) := by
  refine ⟨by simp [W.len], ?_, fun l a o' h1 h2 => ?_⟩
  · rw [List.nodup_append]
    refine ⟨W.nodup, by simp, fun x hx y hy e => ?_⟩
    have e2 : y = p := by simpa using hy
    rw [e, e2] at hx
    exact W.notin h hx
  · rcases Nat.lt_trichotomy l ρ.length with q | q | q
    · rw [List.getElem?_append_left q] at h1
      rw [List.getElem?_append_left (by rw [← W.len]; exact q)] at h2
      exact (W.obj l a o' h1 h2).ext W.sep (ext_alloc h) fun v hv => keep_upd h a v hv
    · subst q
      rw [List.getElem?_concat_length] at h1
      rw [W.len, List.getElem?_concat_length] at h2
      cases h1
      cases h2
      exact new
    · rw [List.getElem?_eq_none (by simp; omega)] at h1
      cases h1
theorem ext_write {u : HO} (h : a ∈ ρ) : Ext ρ H ρ (upd H a u) :=
  ⟨⟨[], by simp, by simp⟩, fun b o e n => by
    have ne : b ≠ a := fun z => n (z ▸ h)
    rw [upd_ne ne]
    exact e⟩
/-- an object of the store is changed -/
theorem Wd.write {u : HO} {o : O} (W : Wd w K mg ρ S H) (h : ρ[l]? = some a) (new : OR w K mg ρ (upd H a u) a o) : Wd w K mg ρ (S.set l o) (upd H a u) := by
  have ha : a ∈ ρ := List.mem_of_getElem? h
  refine ⟨by simp [W.len], W.nodup, fun j b o' h1 h2 => ?_⟩
  by_cases hj : l = j
  · subst hj
    rw [h] at h1
    cases h1
    have hl : l < S.length := by
      rw [← W.len]
      exact (List.getElem?_eq_some_iff.mp h).1
    rw [List.getElem?_set_self hl] at h2
    cases h2
    exact new
  · rw [List.getElem?_set_ne hj] at h2
    have ne : b ≠ a := fun z => by
      subst z
      have i1 := (List.getElem?_eq_some_iff.mp h)
      have i2 := (List.getElem?_eq_some_iff.mp h1)
      obtain ⟨p1, q1⟩ := i1
      obtain ⟨p2, q2⟩ := i2
      exact hj ((List.getElem_inj W.nodup).mp (q1.trans q2.symm))
    exact (W.obj j b o' h1 h2).ext W.sep (ext_write ha) fun v hv => by
      rw [upd_ne ne]
      exact hv
/-- what is not the store's is changed (no tuple, no frozen thing) -/
theorem Wd.aside {u o : HO} (W : Wd w K mg ρ S H) (hp : p ∉ ρ) (h : H p = some o) (h1 : ∀ vs, o ≠ .tup vs) (h2 : ∀ x y, o ≠ .frz x y) : Wd w K mg ρ S (upd H p u) :=
  ⟨W.len, W.nodup, fun l a o' q1 q2 => (W.obj l a o' q1 q2).vx (vx_upd h h1 h2) fun v hv => by
    rw [upd_ne (fun z => hp (by rw [← z]; exact List.mem_of_getElem? q1))]
    exact hv⟩
/-- an object that stands becomes the store's -/
theorem Wd.adopt {o : O} (W : Wd w K mg ρ S H) (hp : p ∉ ρ) (new : OR w K mg (ρ ++ [p]) H p o) : Wd w K mg (ρ ++ [p]) (S ++ [o]) H := by
  have vx : VX ρ H (ρ ++ [p]) H := ⟨fun l a h => by
    rw [List.getElem?_append_left (List.getElem?_eq_some_iff.mp h).1]
    exact h, fun _ _ h => h, fun _ _ _ h => h⟩
  refine ⟨by simp [W.len], ?_, fun l a o' h1 h2 => ?_⟩
  · rw [List.nodup_append]
    refine ⟨W.nodup, by simp, fun x hx y hy e => ?_⟩
    have e2 : y = p := by simpa using hy
    rw [e, e2] at hx
    exact hp hx
  · rcases Nat.lt_trichotomy l ρ.length with q | q | q
    · rw [List.getElem?_append_left q] at h1
      rw [List.getElem?_append_left (by rw [← W.len]; exact q)] at h2
      exact (W.obj l a o' h1 h2).vx vx fun v hv => hv
    · subst q
      rw [List.getElem?_concat_length] at h1
      rw [W.len, List.getElem?_concat_length] at h2
      cases h1
      cases h2
      exact new
    · rw [List.getElem?_eq_none (by simp; omega)] at h1
      cases h1
end
end Dl

namespace Dl
open PySem L2

/-! ## judgements: a piece of syntax and its predicate transformer over (slots, store) -/
abbrev DEnv := List (Option D)
abbrev DQ := D → Sto → Prop
abbrev WE := DEnv → Sto → DQ → Prop
abbrev WT := DEnv → Sto → (Bool → Sto → Prop) → Prop
abbrev WA := DEnv → Sto → (List D → Sto → Prop) → Prop
structure DEnds where
  nx : DEnv → Sto → Prop
  rt : DQ
  bk : DEnv → Sto → Prop := fun _ _ => False
  ct : DEnv → Sto → Prop := fun _ _ => False
abbrev WS := DEnds → DEnv → Sto → Prop
abbrev DSp := List D → Sto → DQ → Prop

def ER (K : PySem.W.Frag) (ρ : List Addr) (H : Hp) (τ : DEnv) (σ : St) : Prop := σ.length = τ.length ∧ ∀ (i : Nat) (d : D), τ[i]? = some (some d) → ∃ v, σ[i]? = some (some v) ∧ VR K ρ H d v
theorem ER.ext {K : PySem.W.Frag} {ρ ρ' : List Addr} {H H' : Hp} {τ : DEnv} {σ : St} (e : ER K ρ H τ σ) (s : Sep ρ H) (x : Ext ρ H ρ' H') : ER K ρ' H' τ σ :=
  ⟨e.1, fun i d h => let ⟨v, h1, h2⟩ := e.2 i d h; ⟨v, h1, h2.ext s x⟩⟩
theorem ER.set {K : PySem.W.Frag} {ρ : List Addr} {H : Hp} {τ : DEnv} {σ : St} {i : Nat} {d : D} {v : V} (e : ER K ρ H τ σ) (r : VR K ρ H d v) : ER K ρ H (τ.set i (some d)) (σ.set i (some v)) := by
  refine ⟨by simp [e.1], fun j c h => ?_⟩
  by_cases hj : i = j
  · subst hj
    have hl : i < τ.length := by
      have := (List.getElem?_eq_some_iff.mp h).1
      simpa using this
    rw [List.getElem?_set_self hl] at h
    cases h
    exact ⟨v, by rw [List.getElem?_set_self (by rw [e.1]; exact hl)], r⟩
  · rw [List.getElem?_set_ne hj] at h ⊢
    exact e.2 j c h

section
variable (X : Cx)
abbrev XW (ρ : List Addr) (S : Sto) (H : Hp) : Prop := Wd X.w X.K X.mg ρ S H
/-- what is wanted of a value and a store gives what is wanted of V and the heap -/
def PassE (ρ : List Addr) (H : Hp) (R : DQ) (Q : VK) : Prop := ∀ d S', R d S' → ∀ ρ' H' v, Ext ρ H ρ' H' → XW X ρ' S' H' → VR X.K ρ' H' d v → Q v H'
def PassT (ρ : List Addr) (H : Hp) (R : Bool → Sto → Prop) (Q : Bool → Hp → Prop) : Prop := ∀ b S', R b S' → ∀ ρ' H', Ext ρ H ρ' H' → XW X ρ' S' H' → Q b H'
def PassA (ρ : List Addr) (H : Hp) (R : List D → Sto → Prop) (Q : List V → Hp → Prop) : Prop := ∀ ds S', R ds S' → ∀ ρ' H' vs, Ext ρ H ρ' H' → XW X ρ' S' H' → VRs X.K ρ' H' ds vs → Q vs H'
def PassN (ρ : List Addr) (H : Hp) (R : DEnv → Sto → Prop) (Q : St → Hp → Prop) : Prop := ∀ τ S', R τ S' → ∀ ρ' H' σ, Ext ρ H ρ' H' → XW X ρ' S' H' → ER X.K ρ' H' τ σ → Q σ H'
def dE (w : WE) : TE := fun σ H Q => ∃ ρ τ S R, XW X ρ S H ∧ ER X.K ρ H τ σ ∧ w τ S R ∧ PassE X ρ H R Q
def dT (w : WT) : TT := fun σ H Q => ∃ ρ τ S R, XW X ρ S H ∧ ER X.K ρ H τ σ ∧ w τ S R ∧ PassT X ρ H R Q
def dA (w : WA) : TA := fun σ H Q => ∃ ρ τ S R, XW X ρ S H ∧ ER X.K ρ H τ σ ∧ w τ S R ∧ PassA X ρ H R Q
def dS (w : WS) : TS := fun D σ H => ∃ ρ τ S R, XW X ρ S H ∧ ER X.K ρ H τ σ ∧ w R τ S ∧ PassN X ρ H R.nx D.nx ∧ PassE X ρ H R.rt D.rt ∧ PassN X ρ H R.bk D.bk ∧ PassN X ρ H R.ct D.ct
end
section
variable {X : Cx} {ρ ρ' : List Addr} {H H' : Hp} {S' : Sto}
theorem PassE.ext {R : DQ} {Q : VK} (p : PassE X ρ H R Q) (W : XW X ρ' S' H') (x : Ext ρ H ρ' H') : PassE X ρ' H' R Q := fun d S2 hR ρ2 H2 v x2 => p d S2 hR ρ2 H2 v (x.trans W.sep x2)
theorem PassT.ext {R : Bool → Sto → Prop} {Q : Bool → Hp → Prop} (p : PassT X ρ H R Q) (W : XW X ρ' S' H') (x : Ext ρ H ρ' H') : PassT X ρ' H' R Q := fun d S2 hR ρ2 H2 x2 => p d S2 hR ρ2 H2 (x.trans W.sep x2)
theorem PassA.ext {R : List D → Sto → Prop} {Q : List V → Hp → Prop} (p : PassA X ρ H R Q) (W : XW X ρ' S' H') (x : Ext ρ H ρ' H') : PassA X ρ' H' R Q := fun d S2 hR ρ2 H2 v x2 => p d S2 hR ρ2 H2 v (x.trans W.sep x2)
theorem PassN.ext {R : DEnv → Sto → Prop} {Q : St → Hp → Prop} (p : PassN X ρ H R Q) (W : XW X ρ' S' H') (x : Ext ρ H ρ' H') : PassN X ρ' H' R Q := fun d S2 hR ρ2 H2 v x2 => p d S2 hR ρ2 H2 v (x.trans W.sep x2)
end
section
variable {X : Cx} {e : Expr} {st : Stmt} {sts : List Stmt} {es : List Expr}
theorem PE.imp {t t' : TE} (h : PE X e t) (k : ∀ σ H Q, t' σ H Q → t σ H Q) : PE X e t' := ⟨fun pins s σ H Q I q => h.run pins s σ H Q I (k σ H Q q)⟩
theorem PT.imp {t t' : TT} (h : PT X e t) (k : ∀ σ H Q, t' σ H Q → t σ H Q) : PT X e t' := ⟨fun pins s σ H Q I q => h.run pins s σ H Q I (k σ H Q q)⟩
theorem PW.imp {t t' : TT} (h : PW X e t) (k : ∀ σ H Q, t' σ H Q → t σ H Q) : PW X e t' := ⟨fun wh pins s σ H Q I q => h.run wh pins s σ H Q I (k σ H Q q)⟩
theorem PA.imp {t t' : TA} (h : PA X es t) (k : ∀ σ H Q, t' σ H Q → t σ H Q) : PA X es t' := ⟨fun p pins s σ H Q I q => h.run p pins s σ H Q I (k σ H Q q)⟩
theorem PS.imp {t t' : TS} (h : PS X st t) (k : ∀ D σ H, t' D σ H → t D σ H) : PS X st t' := ⟨fun pins s σ H D I q => h.run pins s σ H D I (k D σ H q)⟩
theorem PSs.imp {t t' : TS} (h : PSs X sts t) (k : ∀ D σ H, t' D σ H → t D σ H) : PSs X sts t' := ⟨fun pins s σ H D I q => h.run pins s σ H D I (k D σ H q)⟩
end

/-! ### names, constants -/
def wVar (i : Nat) : WE := fun τ S R => ∃ d, τ[i]? = some (some d) ∧ R d S
def wC (d : D) : WE := fun _ S R => R d S
theorem VR.int {K : PySem.W.Frag} {ρ : List Addr} {H : Hp} {i : Int} : VR K ρ H (.int i) (.int i) := by unfold VR; rfl
theorem VR.bl {K : PySem.W.Frag} {ρ : List Addr} {H : Hp} {i : Bool} : VR K ρ H (.bl i) (.bl i) := by unfold VR; rfl
theorem VR.str {K : PySem.W.Frag} {ρ : List Addr} {H : Hp} {x : Str} : VR K ρ H (.str x) (.str x) := by unfold VR; rfl
theorem VR.non {K : PySem.W.Frag} {ρ : List Addr} {H : Hp} : VR K ρ H .non .non := by unfold VR; rfl
theorem VR.int_of {K : PySem.W.Frag} {ρ : List Addr} {H : Hp} {i : Int} {v : V} (h : VR K ρ H (.int i) v) : v = .int i := by unfold VR at h; exact h
theorem VR.bl_of {K : PySem.W.Frag} {ρ : List Addr} {H : Hp} {i : Bool} {v : V} (h : VR K ρ H (.bl i) v) : v = .bl i := by unfold VR at h; exact h
theorem VR.str_of {K : PySem.W.Frag} {ρ : List Addr} {H : Hp} {x : Str} {v : V} (h : VR K ρ H (.str x) v) : v = .str x := by unfold VR at h; exact h
theorem VR.non_of {K : PySem.W.Frag} {ρ : List Addr} {H : Hp} {v : V} (h : VR K ρ H .non v) : v = .non := by unfold VR at h; exact h
theorem VR.tup_of {K : PySem.W.Frag} {ρ : List Addr} {H : Hp} {ds : List D} {v : V} (h : VR K ρ H (.tup ds) v) : ∃ a vs, v = .ref a ∧ TupAt K H a vs ∧ VRs K ρ H ds vs := by unfold VR at h; exact h
theorem VR.fls_of {K : PySem.W.Frag} {ρ : List Addr} {H : Hp} {ds : List D} {v : V} (h : VR K ρ H (.fls ds) v) : ∃ a vs, v = .ref a ∧ FlsAt K H a vs ∧ VRs K ρ H ds vs := by unfold VR at h; exact h
theorem VR.loc_of {K : PySem.W.Frag} {ρ : List Addr} {H : Hp} {l : Nat} {v : V} (h : VR K ρ H (.loc l) v) : ∃ a, ρ[l]? = some a ∧ v = .ref a := by unfold VR at h; exact h
theorem VR.tup {K : PySem.W.Frag} {ρ : List Addr} {H : Hp} {ds : List D} {a : Addr} {vs : List V} (h : TupAt K H a vs) (r : VRs K ρ H ds vs) : VR K ρ H (.tup ds) (.ref a) := by unfold VR; exact ⟨a, vs, rfl, h, r⟩
theorem VR.fls {K : PySem.W.Frag} {ρ : List Addr} {H : Hp} {ds : List D} {a : Addr} {vs : List V} (h : FlsAt K H a vs) (r : VRs K ρ H ds vs) : VR K ρ H (.fls ds) (.ref a) := by unfold VR; exact ⟨a, vs, rfl, h, r⟩
theorem VR.loc {K : PySem.W.Frag} {ρ : List Addr} {H : Hp} {l : Nat} {a : Addr} (h : ρ[l]? = some a) : VR K ρ H (.loc l) (.ref a) := by unfold VR; exact ⟨a, h, rfl⟩

section
variable {X : Cx} {pos : Pos} {j : Nat}
theorem de_of_var {e : Expr} {i : Nat} (h : PE X e (tVar i)) : PE X e (dE X (wVar i)) := PE.imp h fun σ H Q ⟨ρ, τ, S, R, W, er, ⟨d, h1, h2⟩, p⟩ =>
  let ⟨v, h3, h4⟩ := er.2 i d h1
  ⟨v, h3, p d S h2 ρ H v (Ext.refl _ _) W h4⟩
theorem de_of_C {e : Expr} {v : V} {d : D} (h : PE X e (tC v)) (r : ∀ ρ H, VR X.K ρ H d v) : PE X e (dE X (wC d)) := PE.imp h fun σ H Q ⟨ρ, τ, S, R, W, er, h2, p⟩ => p d S h2 ρ H v (Ext.refl _ _) W (r ρ H)
theorem de_var (i : Nat) {x : Str} (hN : X.N[i]? = some x := by rfl) (hv : Vis X.env.scope x := by first | exact Or.inl rfl | exact Or.inr (Or.inl rfl) | exact Or.inr (Or.inr rfl)) (hd : (x == ("__debug__" : Str)) = false := by decide)
    (hcd : (x == ("__classdict__" : Str)) = false := by decide) : PE X (.Name x pos) (dE X (wVar i)) := de_of_var (pe_var hN hv hd hcd)
theorem de_int {i : Int} : PE X (.Constant (.int i) j pos) (dE X (wC (.int i))) := de_of_C pe_int fun _ _ => .int
theorem de_bl {b : Bool} : PE X (.Constant (.bool b) j pos) (dE X (wC (.bl b))) := de_of_C pe_bl fun _ _ => .bl
theorem de_str {x : Str} : PE X (.Constant (.str x) j pos) (dE X (wC (.str x))) := de_of_C pe_str fun _ _ => .str
theorem de_non : PE X (.Constant .none j pos) (dE X (wC .non)) := de_of_C pe_non fun _ _ => .non
/-- a constant of the module -/
def GlbD (mg : Str → Option Value) (x : Str) : D → Prop
  | .int i => ∃ t, mg x = some (.int i t)
  | .str z => ∃ t, mg x = some (.str z t)
  | _ => False
theorem de_glb {x : Str} {d : D} (hg : Gl X x) (h : GlbD X.mg x d) (hd : (x == ("__debug__" : Str)) = false := by decide) : PE X (.Name x pos) (dE X (wC d)) := by
  cases d with
  | int i =>
    obtain ⟨t, h⟩ := h
    exact de_of_C (pe_glob (v := .int i) hg h ⟨t, rfl⟩ hd) fun _ _ => .int
  | str z =>
    obtain ⟨t, h⟩ := h
    exact de_of_C (pe_glob (v := .str z) hg h ⟨t, rfl⟩ hd) fun _ _ => .str
  | non => exact h.elim
  | bl _ => exact h.elim
  | tup _ => exact h.elim
  | fls _ => exact h.elim
  | loc _ => exact h.elim
end

/-! ### operators, by values -/
abbrev DOp := D → D → Sto → DQ → Prop
def rD (X : Cx) (op : DOp) : R2 := fun x y H Q => ∃ ρ S d1 d2 R, XW X ρ S H ∧ VR X.K ρ H d1 x ∧ VR X.K ρ H d2 y ∧ op d1 d2 S R ∧ PassE X ρ H R Q
theorem OpR.imp {X : Cx} {f : Value → Value → Sem Value} {r r' : R2} (h : OpR X f r) (k : ∀ x y H Q, r' x y H Q → r x y H Q) : OpR X f r' := fun pins s σ H x y v u Q I rx ry q => h pins s σ H x y v u Q I rx ry (k x y H Q q)
/-- two rules for one operator -/
def opOr (o o' : DOp) : DOp := fun a b S R => o a b S R ∨ o' a b S R
theorem OpD.or {X : Cx} {f : Value → Value → Sem Value} {o o' : DOp} (h : OpR X f (rD X o)) (h' : OpR X f (rD X o')) : OpR X f (rD X (opOr o o')) :=
  OpR.imp (h.or h') fun x y H Q ⟨ρ, S, d1, d2, R, W, r1, r2, q, p⟩ => q.imp (fun q => ⟨ρ, S, d1, d2, R, W, r1, r2, q, p⟩) fun q => ⟨ρ, S, d1, d2, R, W, r1, r2, q, p⟩
def wOp (o : DOp) (wa wb : WE) : WE := fun τ S R => wa τ S fun d1 S1 => wb τ S1 fun d2 S2 => o d1 d2 S2 R
section
variable {X : Cx} {pos : Pos} {a b c : Expr} {wa wb wc : WE}
theorem op_pass {o : DOp} {σ : St} {H : Hp} {Q : VK} (h : dE X (wOp o wa wb) σ H Q) : tOp (rD X o) (dE X wa) (dE X wb) σ H Q := by
  obtain ⟨ρ, τ, S, R, W, er, h, p⟩ := h
  refine ⟨ρ, τ, S, _, W, er, h, fun d1 S1 h1 ρ1 H1 v1 x1 W1 r1 => ⟨ρ1, τ, S1, _, W1, er.ext W.sep x1, h1, fun d2 S2 h2 ρ2 H2 v2 x2 W2 r2 => ?_⟩⟩
  exact ⟨ρ2, S2, d1, d2, R, W2, r1.ext W1.sep x2, r2, h2, (p.ext W1 x1).ext W2 x2⟩
theorem de_op {op : Operator} {o : DOp} (ho : OpR X (binaryOp op) (rD X o)) (ha : PE X a (dE X wa)) (hb : PE X b (dE X wb)) : PE X (.BinOp a op b pos) (dE X (wOp o wa wb)) := PE.imp (pe_op ho ha hb) fun _ _ _ => op_pass
theorem de_cmp {op : CmpOp} {o : DOp} (ho : OpR X (compareOp op) (rD X o)) (ha : PE X a (dE X wa)) (hb : PE X b (dE X wb)) (hm : behindInMarks op b = false := by first | exact nomark _ | rfl) : PE X (.Compare a [op] [b] pos) (dE X (wOp o wa wb)) :=
  PE.imp (pe_cmpR ho ha hb hm) fun _ _ _ => op_pass
/-- a comparison's answer as a test -/
def wTest (w : WE) : WT := fun τ S R => w τ S fun d S1 => ∃ b, d = .bl b ∧ R b S1
theorem test_pass {t : TE} {w : WE} (k : ∀ σ H Q, dE X w σ H Q → t σ H Q) {σ : St} {H : Hp} {Q : Bool → Hp → Prop} (h : dT X (wTest w) σ H Q) : tTest t σ H Q := by
  obtain ⟨ρ, τ, S, R, W, er, h, p⟩ := h
  refine k σ H _ ⟨ρ, τ, S, _, W, er, h, fun d S1 ⟨b, e, h1⟩ ρ1 H1 v x1 W1 r => ?_⟩
  subst e
  exact ⟨b, r.bl_of, p b S1 h1 ρ1 H1 x1 W1⟩
theorem dt_cmp {op : CmpOp} {o : DOp} (ho : OpR X (compareOp op) (rD X o)) (ha : PE X a (dE X wa)) (hb : PE X b (dE X wb)) (hm : behindInMarks op b = false := by first | exact nomark _ | rfl) : PT X (.Compare a [op] [b] pos) (dT X (wTest (wOp o wa wb))) :=
  PT.imp (pt_cmpR ho ha hb hm) fun _ _ _ => test_pass fun _ _ _ => op_pass
/-- a < b < c -/
def wChain (o o' : DOp) (wa wb wc : WE) : WE := fun τ S R => wa τ S fun d1 S1 => wb τ S1 fun d2 S2 => o d1 d2 S2 fun d S3 => ∃ k, d = .bl k ∧
  if k = true then wc τ S3 fun d3 S4 => o' d2 d3 S4 R else R (.bl false) S3
theorem chain_pass {o o' : DOp} {σ : St} {H : Hp} {Q : VK} (h : dE X (wChain o o' wa wb wc) σ H Q) : tChain (rD X o) (rD X o') (dE X wa) (dE X wb) (dE X wc) σ H Q := by
  obtain ⟨ρ, τ, S, R, W, er, h, p⟩ := h
  refine ⟨ρ, τ, S, _, W, er, h, fun d1 S1 h1 ρ1 H1 v1 x1 W1 r1 => ⟨ρ1, τ, S1, _, W1, er.ext W.sep x1, h1, fun d2 S2 h2 ρ2 H2 v2 x2 W2 r2 => ?_⟩⟩
  refine ⟨ρ2, S2, d1, d2, _, W2, r1.ext W1.sep x2, r2, h2, fun d S3 h3 ρ3 H3 v3 x3 W3 r3 => ?_⟩
  obtain ⟨k, e, h3⟩ := h3
  subst e
  refine ⟨k, r3.bl_of, ?_⟩
  have pq := ((p.ext W1 x1).ext W2 x2).ext W3 x3
  cases k with
  | true =>
    rw [if_pos rfl] at h3 ⊢
    refine ⟨ρ3, τ, S3, _, W3, ((er.ext W.sep x1).ext W1.sep x2).ext W2.sep x3, h3, fun d3 S4 h4 ρ4 H4 v4 x4 W4 r4 => ?_⟩
    exact ⟨ρ4, S4, d2, d3, R, W4, (r2.ext W2.sep x3).ext W3.sep x4, r4, h4, pq.ext W4 x4⟩
  | false =>
    rw [if_neg Bool.false_ne_true] at h3 ⊢
    exact pq _ _ h3 ρ3 H3 _ (Ext.refl _ _) W3 .bl
end
end Dl

namespace Dl
open PySem L2

/-! ### truth -/
def truD (S : Sto) : D → Option Bool
  | .non => some false
  | .bl b => some b
  | .int i => some (i != 0)
  | .str x => if x.length ≤ sizeLine then some ((x.length : Int) != 0) else none
  | .tup ds => some (!ds.isEmpty)
  | .fls ds => some (!ds.isEmpty)
  | .loc l => match S[l]? with
    | some (.lst xs) => some (!xs.isEmpty)
    | _ => none
theorem VRs.isEmpty {K : PySem.W.Frag} {ρ : List Addr} {H : Hp} {ds : List D} {vs : List V} (h : VRs K ρ H ds vs) : (!vs.isEmpty) = !ds.isEmpty := by
  cases ds with
  | nil =>
    unfold VRs at h
    subst h
    rfl
  | cons d ds =>
    unfold VRs at h
    obtain ⟨v, vr, rfl, _⟩ := h
    rfl
theorem truD_ok {X : Cx} {ρ : List Addr} {S : Sto} {H : Hp} {d : D} {v : V} {b : Bool} (W : XW X ρ S H) (r : VR X.K ρ H d v) (e : truD S d = some b) : TruV X.K v H b := by
  cases d with
  | non =>
    cases r.non_of
    exact (Option.some.inj e).symm
  | bl k =>
    cases r.bl_of
    exact (Option.some.inj e).symm
  | int i =>
    cases r.int_of
    exact (Option.some.inj e).symm
  | str x =>
    cases r.str_of
    have e' : (if x.length ≤ sizeLine then some ((x.length : Int) != 0) else none) = some b := e
    by_cases hz : x.length ≤ sizeLine
    · rw [if_pos hz] at e'
      exact ⟨hz, (Option.some.inj e').symm⟩
    · rw [if_neg hz] at e'
      cases e'
  | tup ds =>
    obtain ⟨a, vs, rfl, h1, h2⟩ := r.tup_of
    exact .inr (.inl ⟨vs, h1.sq, by rw [h2.isEmpty]; exact (Option.some.inj e).symm⟩)
  | fls ds =>
    obtain ⟨a, vs, rfl, h1, h2⟩ := r.fls_of
    exact .inl ⟨vs, h1.sq, by rw [h2.isEmpty]; exact (Option.some.inj e).symm⟩
  | loc l =>
    obtain ⟨a, h1, rfl⟩ := r.loc_of
    simp only [truD] at e
    split at e
    · rename_i xs h2
      obtain ⟨vs, h3, h4⟩ := W.obj l a _ h1 h2
      exact .inl ⟨vs, SqL.of h3, by rw [h4.isEmpty]; exact (Option.some.inj e).symm⟩
    · cases e
def wTruth (w : WE) : WT := fun τ S R => w τ S fun d S1 => ∃ b, truD S1 d = some b ∧ R b S1
section
variable {X : Cx} {pos : Pos} {a b c : Expr} {wa wb wc : WE} {tA tB : WT} {rest : List Expr}
theorem dt_truth (ha : PE X a (dE X wa)) (he : ∀ whole, isTrue a X.env whole = (do let v ← whole; standAt a.pos; holding [v] (truthy v)) := by intro _; rfl) : PT X a (dT X (wTruth wa)) :=
  PT.imp (pt_truth ha he) fun σ H Q ⟨ρ, τ, S, R, W, er, h, p⟩ => ⟨ρ, τ, S, _, W, er, h, fun d S1 ⟨b, e, h1⟩ ρ1 H1 v x1 W1 r => ⟨b, truD_ok W1 r e, p b S1 h1 ρ1 H1 x1 W1⟩⟩
/-! ### and, or, not, if else -/
def wAnd (t u : WT) : WT := fun τ S R => t τ S fun c S1 => if c = true then u τ S1 R else R false S1
def wOr (t u : WT) : WT := fun τ S R => t τ S fun c S1 => if c = true then R true S1 else u τ S1 R
def wNot (t : WT) : WT := fun τ S R => t τ S fun c S1 => R (!c) S1
theorem dw_and1 (ha : PT X a (dT X tA)) : PW X (.BoolOp .And [a] pos) (dT X tA) := pw_and1 ha
theorem dw_or1 (ha : PT X a (dT X tA)) : PW X (.BoolOp .Or [a] pos) (dT X tA) := pw_or1 ha
theorem dw_and (ha : PT X a (dT X tA)) (hb : PW X (.BoolOp .And (b :: rest) pos) (dT X tB)) : PW X (.BoolOp .And (a :: b :: rest) pos) (dT X (wAnd tA tB)) :=
  PW.imp (pw_and ha hb) fun σ H Q ⟨ρ, τ, S, R, W, er, h, p⟩ => ⟨ρ, τ, S, _, W, er, h, fun c S1 h1 ρ1 H1 x1 W1 => by
    cases c with
    | true =>
      rw [if_pos rfl] at h1 ⊢
      exact ⟨ρ1, τ, S1, R, W1, er.ext W.sep x1, h1, p.ext W1 x1⟩
    | false =>
      rw [if_neg Bool.false_ne_true] at h1 ⊢
      exact p _ _ h1 ρ1 H1 x1 W1⟩
theorem dw_or (ha : PT X a (dT X tA)) (hb : PW X (.BoolOp .Or (b :: rest) pos) (dT X tB)) : PW X (.BoolOp .Or (a :: b :: rest) pos) (dT X (wOr tA tB)) :=
  PW.imp (pw_or ha hb) fun σ H Q ⟨ρ, τ, S, R, W, er, h, p⟩ => ⟨ρ, τ, S, _, W, er, h, fun c S1 h1 ρ1 H1 x1 W1 => by
    cases c with
    | true =>
      rw [if_pos rfl] at h1 ⊢
      exact p _ _ h1 ρ1 H1 x1 W1
    | false =>
      rw [if_neg Bool.false_ne_true] at h1 ⊢
      exact ⟨ρ1, τ, S1, R, W1, er.ext W.sep x1, h1, p.ext W1 x1⟩⟩
theorem dt_not (ha : PT X a (dT X tA)) : PT X (.UnaryOp .Not a pos) (dT X (wNot tA)) :=
  PT.imp (pt_not ha) fun σ H Q ⟨ρ, τ, S, R, W, er, h, p⟩ => ⟨ρ, τ, S, _, W, er, h, fun c S1 h1 ρ1 H1 x1 W1 => p _ _ h1 ρ1 H1 x1 W1⟩
/-- as values -/
def wAndV (wa wb : WE) : WE := fun τ S R => wa τ S fun d S1 => ∃ b, truD S1 d = some b ∧ if b = true then wb τ S1 R else R d S1
def wOrV (wa wb : WE) : WE := fun τ S R => wa τ S fun d S1 => ∃ b, truD S1 d = some b ∧ if b = true then R d S1 else wb τ S1 R
def wNotV (wa : WE) : WE := fun τ S R => wa τ S fun d S1 => ∃ b, truD S1 d = some b ∧ R (.bl (!b)) S1
theorem de_one {op : BoolOp} (ha : PE X a (dE X wa)) : PE X (.BoolOp op [a] pos) (dE X wa) := pe_one ha
theorem de_and (ha : PE X a (dE X wa)) (hb : PE X (.BoolOp .And (b :: rest) pos) (dE X wb)) : PE X (.BoolOp .And (a :: b :: rest) pos) (dE X (wAndV wa wb)) :=
  PE.imp (pe_andT ha hb) fun σ H Q ⟨ρ, τ, S, R, W, er, h, p⟩ => ⟨ρ, τ, S, _, W, er, h, fun d S1 ⟨b, e, h1⟩ ρ1 H1 v x1 W1 r => by
    refine ⟨b, truD_ok W1 r e, ?_⟩
    cases b with
    | true =>
      rw [if_pos rfl] at h1 ⊢
      exact ⟨ρ1, τ, S1, R, W1, er.ext W.sep x1, h1, p.ext W1 x1⟩
    | false =>
      rw [if_neg Bool.false_ne_true] at h1 ⊢
      exact p _ _ h1 ρ1 H1 v x1 W1 r⟩
theorem de_or (ha : PE X a (dE X wa)) (hb : PE X (.BoolOp .Or (b :: rest) pos) (dE X wb)) : PE X (.BoolOp .Or (a :: b :: rest) pos) (dE X (wOrV wa wb)) :=
  PE.imp (pe_orT ha hb) fun σ H Q ⟨ρ, τ, S, R, W, er, h, p⟩ => ⟨ρ, τ, S, _, W, er, h, fun d S1 ⟨b, e, h1⟩ ρ1 H1 v x1 W1 r => by
    refine ⟨b, truD_ok W1 r e, ?_⟩
    cases b with
    | true =>
      rw [if_pos rfl] at h1 ⊢
      exact p _ _ h1 ρ1 H1 v x1 W1 r
    | false =>
      rw [if_neg Bool.false_ne_true] at h1 ⊢
      exact ⟨ρ1, τ, S1, R, W1, er.ext W.sep x1, h1, p.ext W1 x1⟩⟩
theorem de_not (ha : PE X a (dE X wa)) : PE X (.UnaryOp .Not a pos) (dE X (wNotV wa)) :=
  PE.imp (pe_notT ha) fun σ H Q ⟨ρ, τ, S, R, W, er, h, p⟩ => ⟨ρ, τ, S, _, W, er, h, fun d S1 ⟨b, e, h1⟩ ρ1 H1 v x1 W1 r => ⟨b, truD_ok W1 r e, p _ _ h1 ρ1 H1 _ x1 W1 .bl⟩⟩
def wIf (t : WT) (wa wb : WE) : WE := fun τ S R => t τ S fun c S1 => if c = true then wa τ S1 R else wb τ S1 R
theorem de_if (hc : PT X c (dT X tA)) (ha : PE X a (dE X wa)) (hb : PE X b (dE X wb)) : PE X (.IfExp c a b pos) (dE X (wIf tA wa wb)) :=
  PE.imp (pe_ifExp hc ha hb) fun σ H Q ⟨ρ, τ, S, R, W, er, h, p⟩ => ⟨ρ, τ, S, _, W, er, h, fun c S1 h1 ρ1 H1 x1 W1 => by
    cases c with
    | true =>
      rw [if_pos rfl] at h1 ⊢
      exact ⟨ρ1, τ, S1, R, W1, er.ext W.sep x1, h1, p.ext W1 x1⟩
    | false =>
      rw [if_neg Bool.false_ne_true] at h1 ⊢
      exact ⟨ρ1, τ, S1, R, W1, er.ext W.sep x1, h1, p.ext W1 x1⟩⟩
end

/-! ### argument lists, displays -/
def wNil : WA := fun _ S R => R [] S
def wCons (wa : WE) (wr : WA) : WA := fun τ S R => wa τ S fun d S1 => wr τ S1 fun ds S2 => R (d :: ds) S2
section
variable {X : Cx} {pos : Pos} {e : Expr} {es : List Expr} {wa : WE} {wr : WA}
theorem da_nil : PA X [] (dA X wNil) := PA.imp pa_nil fun σ H Q ⟨ρ, τ, S, R, W, er, h, p⟩ => p _ _ h ρ H [] (Ext.refl _ _) W .nil
theorem da_cons (ha : PE X e (dE X wa)) (hr : PA X es (dA X wr)) (hs : starEach (e :: es) X.env = (false, eval e X.env) :: starEach es X.env := by rfl) : PA X (e :: es) (dA X (wCons wa wr)) :=
  PA.imp (pa_cons ha hr hs) fun σ H Q ⟨ρ, τ, S, R, W, er, h, p⟩ => ⟨ρ, τ, S, _, W, er, h, fun d S1 h1 ρ1 H1 v x1 W1 r1 => ⟨ρ1, τ, S1, _, W1, er.ext W.sep x1, h1, fun ds S2 h2 ρ2 H2 vs x2 W2 r2 =>
    p _ _ h2 ρ2 H2 _ (x1.trans W1.sep x2) W2 (.cons (r1.ext W1.sep x2) r2)⟩⟩
def wTup (wr : WA) : WE := fun τ S R => wr τ S fun ds S1 => ds.length ≤ sizeLine ∧ R (.tup ds) S1
def wLst (wr : WA) : WE := fun τ S R => wr τ S fun ds S1 => ds.length ≤ sizeLine ∧ R (.loc S1.length) (S1 ++ [.lst ds])
/-- a new tuple -/
theorem new_tup {ρ : List Addr} {S : Sto} {H : Hp} {R : DQ} {Q : VK} {ds : List D} {vs : List V} (W : XW X ρ S H) (r : VRs X.K ρ H ds vs) (h : R (.tup ds) S) (p : PassE X ρ H R Q) {a : Addr} (ha : H a = none) : Q (.ref a) (upd H a (.tup vs)) :=
  p _ _ h ρ _ _ (ext_new ha) (W.laid ha) (.tup (.inl upd_same) (VRs.ext W.sep (ext_new ha) _ _ r))
/-- a new list -/
theorem new_lst {ρ : List Addr} {S : Sto} {H : Hp} {R : DQ} {Q : VK} {ds : List D} {vs : List V} (W : XW X ρ S H) (r : VRs X.K ρ H ds vs) (h : R (.loc S.length) (S ++ [.lst ds])) (p : PassE X ρ H R Q) {a : Addr} (ha : H a = none) : Q (.ref a) (upd H a (.lst vs)) :=
  p _ _ h (ρ ++ [a]) _ _ (ext_alloc ha) (W.alloc ha ⟨vs, upd_same, VRs.ext W.sep (ext_alloc ha) _ _ r⟩) (.loc (by rw [← W.len]; exact List.getElem?_concat_length ..))
theorem de_tup {x1 : Nat} (h : PA X es (dA X wr)) : PE X (.Tuple es x1 pos) (dE X (wTup wr)) :=
  PE.imp (pe_tup h) fun σ H Q ⟨ρ, τ, S, R, W, er, h, p⟩ => ⟨ρ, τ, S, _, W, er, h, fun ds S1 ⟨hz, h1⟩ ρ1 H1 vs x1 W1 r => ⟨by rw [r.length]; exact hz, fun a ha => new_tup W1 r h1 (p.ext W1 x1) ha⟩⟩
theorem de_lst (h : PA X es (dA X wr)) : PE X (.List es pos) (dE X (wLst wr)) :=
  PE.imp (pe_lst h) fun σ H Q ⟨ρ, τ, S, R, W, er, h, p⟩ => ⟨ρ, τ, S, _, W, er, h, fun ds S1 ⟨hz, h1⟩ ρ1 H1 vs x1 W1 r => ⟨by rw [r.length]; exact hz, fun a ha => new_lst W1 r h1 (p.ext W1 x1) ha⟩⟩
end

/-! ### subscripts, slices -/
section
variable {X : Cx} {pos p2 : Pos} {a b e : Expr} {wa wb we : WE} {lo hi : Option Expr}
theorem IxR.imp {r r' : R2} (h : IxR X r) (k : ∀ x y H Q, r' x y H Q → r x y H Q) : IxR X r' := fun value slice pins s σ H x y v u Q I rx ry q => h value slice pins s σ H x y v u Q I rx ry (k x y H Q q)
theorem IxD.or {o o' : DOp} (h : IxR X (rD X o)) (h' : IxR X (rD X o')) : IxR X (rD X (opOr o o')) :=
  IxR.imp (h.or h') fun x y H Q ⟨ρ, S, d1, d2, R, W, r1, r2, q, p⟩ => q.imp (fun q => ⟨ρ, S, d1, d2, R, W, r1, r2, q, p⟩) fun q => ⟨ρ, S, d1, d2, R, W, r1, r2, q, p⟩
theorem de_ix {o : DOp} (ho : IxR X (rD X o)) (ha : PE X a (dE X wa)) (hb : PE X b (dE X wb)) (hs : PlainIx b := by exact fun _ _ => rfl) : PE X (.Subscript a b pos) (dE X (wOp o wa wb)) := PE.imp (pe_ix ho ha hb hs) fun _ _ _ => op_pass
abbrev WO := DEnv → Sto → (Option Int → Sto → Prop) → Prop
def dO (X : Cx) (w : WO) : TO := fun σ H Q => ∃ ρ τ S R, XW X ρ S H ∧ ER X.K ρ H τ σ ∧ w τ S R ∧ ∀ i S', R i S' → ∀ ρ' H', Ext ρ H ρ' H' → XW X ρ' S' H' → Q i H'
def wNoPart : WO := fun _ S R => R none S
def wPart (w : WE) : WO := fun τ S R => w τ S fun d S1 => ∃ i, d = .int i ∧ R (some i) S1
theorem PO.imp {x : Option Expr} {t t' : TO} (h : PO X x t) (k : ∀ σ H Q, t' σ H Q → t σ H Q) : PO X x t' := ⟨fun pins s σ H Q I q => h.run pins s σ H Q I (k σ H Q q)⟩
theorem do_none : PO X none (dO X wNoPart) := PO.imp po_none fun σ H Q ⟨ρ, τ, S, R, W, er, h, p⟩ => p _ _ h ρ H (Ext.refl _ _) W
theorem do_some (ha : PE X a (dE X wa)) : PO X (some a) (dO X (wPart wa)) := PO.imp (po_some ha) fun σ H Q ⟨ρ, τ, S, R, W, er, h, p⟩ => ⟨ρ, τ, S, _, W, er, h, fun d S1 ⟨i, e, h1⟩ ρ1 H1 v x1 W1 r => by
  subst e
  exact ⟨i, r.int_of, p _ _ h1 ρ1 H1 x1 W1⟩⟩
abbrev DSl := D → Option Int → Option Int → Sto → DQ → Prop
def rSlD (X : Cx) (op : DSl) : V → Option Int → Option Int → Hp → VK → Prop := fun x lo hi H Q => ∃ ρ S d R, XW X ρ S H ∧ VR X.K ρ H d x ∧ op d lo hi S R ∧ PassE X ρ H R Q
theorem SlR.imp {r r' : V → Option Int → Option Int → Hp → VK → Prop} (h : SlR X r) (k : ∀ x l u H Q, r' x l u H Q → r x l u H Q) : SlR X r' := fun pins s σ H x v vl vu l u sl Q I rx hs pl pu q => h pins s σ H x v vl vu l u sl Q I rx hs pl pu (k x l u H Q q)
def slOr (o o' : DSl) : DSl := fun d lo hi S R => o d lo hi S R ∨ o' d lo hi S R
theorem SlD.or {o o' : DSl} (h : SlR X (rSlD X o)) (h' : SlR X (rSlD X o')) : SlR X (rSlD X (slOr o o')) :=
  SlR.imp (h.or h') fun x l u H Q ⟨ρ, S, d, R, W, r, q, p⟩ => q.imp (fun q => ⟨ρ, S, d, R, W, r, q, p⟩) fun q => ⟨ρ, S, d, R, W, r, q, p⟩
def wSl (o : DSl) (we : WE) (wl wh : WO) : WE := fun τ S R => we τ S fun d S1 => wl τ S1 fun l S2 => wh τ S2 fun u S3 => o d l u S3 R
theorem de_slice {o : DSl} {wl wh : WO} (ho : SlR X (rSlD X o)) (he : PE X e (dE X we)) (hl : PO X lo (dO X wl)) (hu : PO X hi (dO X wh)) : PE X (.Subscript e (.Slice lo hi none p2) pos) (dE X (wSl o we wl wh)) :=
  PE.imp (pe_slice ho he hl hu) fun σ H Q ⟨ρ, τ, S, R, W, er, h, p⟩ => ⟨ρ, τ, S, _, W, er, h, fun d S1 h1 ρ1 H1 v x1 W1 r1 => ⟨ρ1, τ, S1, _, W1, er.ext W.sep x1, h1, fun l S2 h2 ρ2 H2 x2 W2 =>
    ⟨ρ2, τ, S2, _, W2, (er.ext W.sep x1).ext W1.sep x2, h2, fun u S3 h3 ρ3 H3 x3 W3 => ⟨ρ3, S3, d, R, W3, (r1.ext W1.sep x2).ext W2.sep x3, h3, ((p.ext W1 x1).ext W2 x2).ext W3 x3⟩⟩⟩⟩
end

/-! ### calls of built-ins -/
abbrev DCall := List D → Sto → DQ → Prop
def rCD (X : Cx) (op : DCall) : List V → Hp → VK → Prop := fun xs H Q => ∃ ρ S ds R, XW X ρ S H ∧ VRs X.K ρ H ds xs ∧ op ds S R ∧ PassE X ρ H R Q
section
variable {X : Cx} {pos p : Pos} {e : Expr} {es : List Expr} {wr : WA} {x : Str} {id T : String}
theorem CallR.imp {f : Value} {r r' : List V → Hp → VK → Prop} (h : CallR X f r) (k : ∀ xs H Q, r' xs H Q → r xs H Q) : CallR X f r' := fun pins s σ H xs us Q I r1 q => h pins s σ H xs us Q I r1 (k xs H Q q)
theorem CallR.or {f : Value} {r r' : List V → Hp → VK → Prop} (h : CallR X f r) (h' : CallR X f r') : CallR X f (fun xs H Q => r xs H Q ∨ r' xs H Q) := fun pins s σ H xs us Q I r1 q => q.elim (h pins s σ H xs us Q I r1) (h' pins s σ H xs us Q I r1)
def callOr (o o' : DCall) : DCall := fun ds S R => o ds S R ∨ o' ds S R
theorem CallD.or {f : Value} {o o' : DCall} (h : CallR X f (rCD X o)) (h' : CallR X f (rCD X o')) : CallR X f (rCD X (callOr o o')) :=
  CallR.imp (CallR.or h h') fun xs H Q ⟨ρ, S, ds, R, W, r, q, p⟩ => q.imp (fun q => ⟨ρ, S, ds, R, W, r, q, p⟩) fun q => ⟨ρ, S, ds, R, W, r, q, p⟩
def wCB (o : DCall) (wr : WA) : WE := fun τ S R => wr τ S fun ds S1 => o ds S1 R
theorem call_pass {o : DCall} {σ : St} {H : Hp} {Q : VK} (h : dE X (wCB o wr) σ H Q) : tCB (rCD X o) (dA X wr) σ H Q := by
  obtain ⟨ρ, τ, S, R, W, er, h, p⟩ := h
  exact ⟨ρ, τ, S, _, W, er, h, fun ds S1 h1 ρ1 H1 vs x1 W1 r => ⟨ρ1, S1, ds, R, W1, r, h1, p.ext W1 x1⟩⟩
theorem de_callB {o : DCall} (ho : CallR X (.builtin id) (rCD X o)) (hm : X.mg x = none) (hg : Gl X x) (hv : bootBuiltins x = some (.builtin id)) (ha : PA X (e :: es) (dA X wr)) (hn : x ≠ "__name__" := by decide) (hdb : (x == ("__debug__" : Str)) = false := by decide)
    (hs : starEach (e :: es) X.env = (false, eval e X.env) :: starEach es X.env := by rfl) (hpl : (backTo pos (starEach es X.env)).any (·.1) = false := by rfl) :
    PE X (.Call (.Name x p) (e :: es) [] pos) (dE X (wCB o wr)) := PE.imp (pe_callB ho hg hm hv ha hn hdb hs hpl) fun _ _ _ => call_pass
theorem de_callT {o : DCall} (ho : CallR X (.type T) (rCD X o)) (hm : X.mg x = none) (hg : Gl X x) (hv : bootBuiltins x = some (.type T)) (ha : PA X (e :: es) (dA X wr)) (hn : x ≠ "__name__" := by decide) (hdb : (x == ("__debug__" : Str)) = false := by decide)
    (hs : starEach (e :: es) X.env = (false, eval e X.env) :: starEach es X.env := by rfl) (hpl : (backTo pos (starEach es X.env)).any (·.1) = false := by rfl) :
    PE X (.Call (.Name x p) (e :: es) [] pos) (dE X (wCB o wr)) := PE.imp (pe_callTy ho hg hm hv ha hn hdb hs hpl) fun _ _ _ => call_pass
end

/-! ### calls of defs -/
def spD (w : World) (K : PySem.W.Frag) (mg : Str → Option Value) (sp : DSp) : Sp := fun vs H Q _ => ∃ ρ S ds R, Wd w K mg ρ S H ∧ VRs K ρ H ds vs ∧ sp ds S R ∧
  ∀ d S', R d S' → ∀ ρ' H' v, Ext ρ H ρ' H' → Wd w K mg ρ' S' H' → VR K ρ' H' d v → Q v H'
/-! ### room where no value is being shown: the promise of a def, its calls -/
structure RoomG (k : Nat) (A : Around) : Prop where
  room : Room k A
  gd : A.guards = some []
theorem RoomG.mono {j k : Nat} {A : Around} (r : RoomG k A) (h : j ≤ k) : RoomG j A := ⟨r.room.mono h, r.gd⟩
theorem RoomG.deeper {k : Nat} {A : Around} (r : RoomG (k + 1) A) (env : Env) : RoomG k (A.deeper env) := ⟨r.room.deeper env, r.gd⟩
/-- as FnOk, asked only where no value is being shown -/
structure FnG (P : Program) (w : World) (K : PySem.W.Frag) (mg : Str → Option Value) (base : Heap) (CX : CXT) (k : Nat) (f : Addr) (fd : FuncData) (ps : List Str) (sp : Sp) : Prop where
  len : ∀ vs H Q E, sp vs H Q E → vs.length = ps.length
  run : ∀ (A : Around) (outer : List Env) (s : Shared) (H : Hp) (args : Args) (us : List Value) (vs : List V) (Q : VK) (E : XK), RoomG k A → Env0 P w K mg base A outer s H → BindsTo s fd args (ps.zip us) → Vals vs us → sp vs H Q E →
    codeAny (model P w) A (.call (.ref f) args) (CR CX outer P w H s Q E) s
theorem FnG.mono {P : Program} {w : World} {K : PySem.W.Frag} {mg : Str → Option Value} {base : Heap} {CX : CXT} {j k : Nat} {f : Addr} {fd : FuncData} {ps : List Str} {sp : Sp} (F : FnG P w K mg base CX j f fd ps sp) (h : j ≤ k) :
    FnG P w K mg base CX k f fd ps sp := ⟨F.len, fun A outer s H args us vs Q E hr => F.run A outer s H args us vs Q E (hr.mono h)⟩
theorem FnG.imp {P : Program} {w : World} {K : PySem.W.Frag} {mg : Str → Option Value} {base : Heap} {CX : CXT} {k : Nat} {f : Addr} {fd : FuncData} {ps : List Str} {sp sp' : Sp} (F : FnG P w K mg base CX k f fd ps sp)
    (h : ∀ vs H Q E, sp' vs H Q E → sp vs H Q E) : FnG P w K mg base CX k f fd ps sp' :=
  ⟨fun vs H Q E q => F.len vs H Q E (h _ _ _ _ q), fun A outer s H args us vs Q E hr he hb hv hs => F.run A outer s H args us vs Q E hr he hb hv (h _ _ _ _ hs)⟩
section
variable {X : Cx} {CX : CXT} {k : Nat} {f : Addr} {fd : FuncData} {ps : List Str} {sp : Sp} {E : XK} {x : Str} {p pos : Pos} {e : Expr} {es : List Expr} {t : TA}
theorem run_fnG {pins : List (Addr × Obj)} {σ : St} {H : Hp} {s : Shared} {Q : VK} {us : List Value} {vs : List V} (F : FnG X.prog X.w X.K X.mg X.base CX k f fd ps sp) (hr : RoomG k X.A) (hb : Binds X.K fd ps []) (hx : Passes CX X E)
    (I : Inv X pins σ H s) (r : Vals vs us) (h : sp vs H Q E) : wpAny (model X.prog X.w) X.A (call (.ref f) us) (EP X pins σ Q) X.xe s := by
  have hl : us.length = ps.length := by rw [← r.length]; exact F.len _ _ _ _ h
  have hb' := hb s us I.kIn (by rw [List.append_nil]; exact hl)
  rw [List.append_nil] at hb'
  refine wpAny_call (codeAny_mono (F.run X.A X.stack s H ⟨us, []⟩ us vs Q E hr I.env0 hb' r h) fun r s' hq => ?_)
  cases r with
  | error e => exact hx pins σ H s e s' I hq
  | ok fl =>
    cases fl with
    | ret u => exact I.after hq
    | next => exact False.elim hq
    | brk => exact False.elim hq
    | cont => exact False.elim hq
theorem pe_callG (F : FnG X.prog X.w X.K X.mg X.base CX k f fd ps sp) (hr : RoomG k X.A) (hg : Gl X x) (hm : X.mg x = some (.ref f)) (hk : PySem.W.keepIn X.K (.ref f) = true) (hb : Binds X.K fd ps []) (hx : Passes CX X E)
    (ha : PA X (e :: es) t) (hdb : (x == ("__debug__" : Str)) = false := by decide) (he : starEach (e :: es) X.env = (false, eval e X.env) :: starEach es X.env := by rfl) (hpl : (backTo pos (starEach es X.env)).any (·.1) = false := by rfl) :
    PE X (.Call (.Name x p) (e :: es) [] pos) (tCall sp [] E t) := by
  refine ⟨fun pins s σ H Q I h => ?_⟩
  refine wpAny_Call_Name_kw (ld_glob I hg hm ?_ hdb)
  refine PySem.W.callWith_K (h₀ := X.base) I.ok.mod.kin hk (thn (ha.run pos pins s σ H _ I h) fun us s1 ⟨vs, H1, I1, r, q⟩ => ⟨I1.kIn, ?_⟩) he hpl
  have q' : sp (vs ++ []) H1 Q E := q
  rw [List.append_nil] at q'
  exact run_fnG F hr hb hx I1 r q'
theorem pe_callG0 (F : FnG X.prog X.w X.K X.mg X.base CX k f fd ps sp) (hr : RoomG k X.A) (hg : Gl X x) (hm : X.mg x = some (.ref f)) (hk : PySem.W.keepIn X.K (.ref f) = true) (hb : Binds X.K fd ps []) (hx : Passes CX X E)
    (hdb : (x == ("__debug__" : Str)) = false := by decide) : PE X (.Call (.Name x p) [] [] pos) (tCall sp [] E tNil) := by
  refine ⟨fun pins s σ H Q I h => ?_⟩
  refine wpAny_Call_Name_kw (ld_glob I hg hm ?_ hdb)
  exact PySem.W.callWith_K0 I.kIn hk (run_fnG (us := []) F hr hb hx I .nil h)
end
/-- the def of the module at the name x keeps its promise, at most k calls deep -/
structure FnD (P : Program) (w : World) (K : PySem.W.Frag) (mg : Str → Option Value) (base : Heap) (k : Nat) (x : Str) (sp : DSp) : Prop where
  ex : ∃ f fd ps, FnG P w K mg base CX0 k f fd ps (spD w K mg sp) ∧ mg x = some (.ref f) ∧ PySem.W.keepIn K (.ref f) = true ∧ Binds K fd ps []
theorem FnD.mono {P : Program} {w : World} {K : PySem.W.Frag} {mg : Str → Option Value} {base : Heap} {j k : Nat} {x : Str} {sp : DSp} (F : FnD P w K mg base j x sp) (h : j ≤ k) : FnD P w K mg base k x sp :=
  let ⟨f, fd, ps, h1, h2, h3, h4⟩ := F.ex
  ⟨f, fd, ps, h1.mono h, h2, h3, h4⟩
/-- a weaker promise -/
theorem FnD.imp {P : Program} {w : World} {K : PySem.W.Frag} {mg : Str → Option Value} {base : Heap} {k : Nat} {x : Str} {sp sp' : DSp} (F : FnD P w K mg base k x sp) (h : ∀ ds S R, sp' ds S R → sp ds S R) : FnD P w K mg base k x sp' :=
  let ⟨f, fd, ps, h1, h2, h3, h4⟩ := F.ex
  ⟨f, fd, ps, h1.imp fun vs H Q E ⟨ρ, S, ds, R, W, r, q, p⟩ => ⟨ρ, S, ds, R, W, r, h _ _ _ q, p⟩, h2, h3, h4⟩
def wCall (sp : DSp) (wr : WA) : WE := fun τ S R => wr τ S fun ds S1 => sp ds S1 R
section
variable {X : Cx} {pos p : Pos} {e : Expr} {es : List Expr} {wr : WA} {x : Str} {k : Nat} {sp : DSp}
theorem de_call (F : FnD X.prog X.w X.K X.mg X.base k x sp) (hr : RoomG k X.A) (hg : Gl X x) (ha : PA X (e :: es) (dA X wr)) (hdb : (x == ("__debug__" : Str)) = false := by decide)
    (he : starEach (e :: es) X.env = (false, eval e X.env) :: starEach es X.env := by rfl) (hpl : (backTo pos (starEach es X.env)).any (·.1) = false := by rfl) : PE X (.Call (.Name x p) (e :: es) [] pos) (dE X (wCall sp wr)) := by
  obtain ⟨f, fd, ps, h1, h2, h3, h4⟩ := F.ex
  refine PE.imp (pe_callG h1 hr hg h2 h3 h4 pass0 ha hdb he hpl) fun σ H Q ⟨ρ, τ, S, R, W, er, h, p⟩ => ?_
  exact ⟨ρ, τ, S, _, W, er, h, fun ds S1 h1 ρ1 H1 vs x1 W1 r => ⟨ρ1, S1, ds, R, W1, by rw [List.append_nil]; exact r, h1, p.ext W1 x1⟩⟩
theorem de_call0 (F : FnD X.prog X.w X.K X.mg X.base k x sp) (hr : RoomG k X.A) (hg : Gl X x) (hdb : (x == ("__debug__" : Str)) = false := by decide) : PE X (.Call (.Name x p) [] [] pos) (dE X (wCall sp wNil)) := by
  obtain ⟨f, fd, ps, h1, h2, h3, h4⟩ := F.ex
  refine PE.imp (pe_callG0 h1 hr hg h2 h3 h4 pass0 hdb) fun σ H Q ⟨ρ, τ, S, R, W, er, h, p⟩ => ?_
  exact ⟨ρ, S, [], R, W, .nil, h, p⟩
end
end Dl

namespace Dl
open PySem L2

/-! ### blocks and small statements -/
def wSkip : WS := fun R τ S => R.nx τ S
def wSeq (t u : WS) : WS := fun R τ S => t { R with nx := fun τ' S' => u R τ' S' } τ S
def wBreak : WS := fun R τ S => R.bk τ S
def wCont : WS := fun R τ S => R.ct τ S
def wDrop (we : WE) : WS := fun R τ S => we τ S fun _ S1 => R.nx τ S1
def wRet (we : WE) : WS := fun R τ S => we τ S R.rt
def wRetN : WS := fun R _ S => R.rt .non S
def wIfS (c : WT) (t u : WS) : WS := fun R τ S => c τ S fun b S1 => if b = true then t R τ S1 else u R τ S1
def wNever : WS := fun _ _ _ => False
section
variable {X : Cx} {st : Stmt} {rest : List Stmt} {wt wu : WS} {e c : Expr} {we : WE} {wc : WT} {pos : Pos} {a b : List Stmt}
theorem ds_nil : PSs X [] (dS X wSkip) := PSs.imp pss_nil fun D σ H ⟨ρ, τ, S, R, W, er, h, p1, p2, p3, p4⟩ => p1 _ _ h ρ H σ (Ext.refl _ _) W er
theorem ds_cons (h1 : PS X st (dS X wt)) (h2 : PSs X rest (dS X wu)) : PSs X (st :: rest) (dS X (wSeq wt wu)) :=
  PSs.imp (pss_cons h1 h2) fun D σ H ⟨ρ, τ, S, R, W, er, h, p1, p2, p3, p4⟩ => ⟨ρ, τ, S, _, W, er, h, fun τ' S' h' ρ1 H1 σ1 x1 W1 er1 => ⟨ρ1, τ', S', R, W1, er1, h', p1.ext W1 x1, p2.ext W1 x1, p3.ext W1 x1, p4.ext W1 x1⟩, p2, p3, p4⟩
theorem ds_one (h1 : PS X st (dS X wt)) : PSs X [st] (dS X wt) := pss_one h1
theorem ds_pass : PS X (.Pass pos) (dS X wSkip) := PS.imp ps_pass fun D σ H ⟨ρ, τ, S, R, W, er, h, p1, p2, p3, p4⟩ => p1 _ _ h ρ H σ (Ext.refl _ _) W er
theorem ds_break : PS X (.Break pos) (dS X wBreak) := PS.imp ps_break fun D σ H ⟨ρ, τ, S, R, W, er, h, p1, p2, p3, p4⟩ => p3 _ _ h ρ H σ (Ext.refl _ _) W er
theorem ds_cont : PS X (.Continue pos) (dS X wCont) := PS.imp ps_continue fun D σ H ⟨ρ, τ, S, R, W, er, h, p1, p2, p3, p4⟩ => p4 _ _ h ρ H σ (Ext.refl _ _) W er
theorem ds_expr (he : PE X e (dE X we)) (hs : swapsWith e none pos.line X.env = pure false := by rfl) : PS X (.Expr e pos) (dS X (wDrop we)) :=
  PS.imp (ps_expr he hs) fun D σ H ⟨ρ, τ, S, R, W, er, h, p1, p2, p3, p4⟩ => ⟨ρ, τ, S, _, W, er, h, fun d S1 h1 ρ1 H1 v x1 W1 r => p1 _ _ h1 ρ1 H1 σ x1 W1 (er.ext W.sep x1)⟩
theorem ds_ret (he : PE X e (dE X we)) : PS X (.Return (some e) pos) (dS X (wRet we)) :=
  PS.imp (ps_ret he) fun D σ H ⟨ρ, τ, S, R, W, er, h, p1, p2, p3, p4⟩ => ⟨ρ, τ, S, _, W, er, h, p2⟩
theorem ds_retN : PS X (.Return none pos) (dS X wRetN) := PS.imp ps_retN fun D σ H ⟨ρ, τ, S, R, W, er, h, p1, p2, p3, p4⟩ => p2 _ _ h ρ H _ (Ext.refl _ _) W .non
theorem ds_if (hc : PT X c (dT X wc)) (ha : PSs X a (dS X wt)) (hb : PSs X b (dS X wu)) : PS X (.If c a b pos) (dS X (wIfS wc wt wu)) :=
  PS.imp (ps_if hc ha hb) fun D σ H ⟨ρ, τ, S, R, W, er, h, p1, p2, p3, p4⟩ => ⟨ρ, τ, S, _, W, er, h, fun b S1 h1 ρ1 H1 x1 W1 => by
    cases b with
    | true =>
      rw [if_pos rfl] at h1 ⊢
      exact ⟨ρ1, τ, S1, R, W1, er.ext W.sep x1, h1, p1.ext W1 x1, p2.ext W1 x1, p3.ext W1 x1, p4.ext W1 x1⟩
    | false =>
      rw [if_neg Bool.false_ne_true] at h1 ⊢
      exact ⟨ρ1, τ, S1, R, W1, er.ext W.sep x1, h1, p1.ext W1 x1, p2.ext W1 x1, p3.ext W1 x1, p4.ext W1 x1⟩⟩
theorem ds_never : PS X st (dS X wNever) := PS.imp ps_never fun D σ H ⟨ρ, τ, S, R, W, er, h, _⟩ => h.elim
theorem ds_nevers : PSs X rest (dS X wNever) := PSs.imp pss_never fun D σ H ⟨ρ, τ, S, R, W, er, h, _⟩ => h.elim
end

/-! ### targets -/
abbrev WG := D → DEnv → Sto → (DEnv → Sto → Prop) → Prop
abbrev WGs := List D → DEnv → Sto → (DEnv → Sto → Prop) → Prop
def dG (X : Cx) (g : WG) : TG := fun v σ H Q => ∃ ρ τ S d R, XW X ρ S H ∧ ER X.K ρ H τ σ ∧ VR X.K ρ H d v ∧ g d τ S R ∧ PassN X ρ H R Q
def dGs (X : Cx) (g : WGs) : TGs := fun vs σ H Q => ∃ ρ τ S ds R, XW X ρ S H ∧ ER X.K ρ H τ σ ∧ VRs X.K ρ H ds vs ∧ g ds τ S R ∧ PassN X ρ H R Q
theorem PG.imp {X : Cx} {e : Expr} {t t' : TG} (h : PG X e t) (k : ∀ v σ H Q, t' v σ H Q → t v σ H Q) : PG X e t' := ⟨fun pins s σ H v u Q I r q => h.run pins s σ H v u Q I r (k v σ H Q q)⟩
theorem PGs.imp {X : Cx} {es : List Expr} {t t' : TGs} (h : PGs X es t) (k : ∀ v σ H Q, t' v σ H Q → t v σ H Q) : PGs X es t' := ⟨fun pins s σ H v u Q I r q => h.run pins s σ H v u Q I r (k v σ H Q q)⟩
def wgName (i : Nat) : WG := fun d τ S R => R (τ.set i (some d)) S
def wgNil : WGs := fun ds τ S R => ds = [] ∧ R τ S
def wgCons (g : WG) (gs : WGs) : WGs := fun ds τ S R => ∃ d r, ds = d :: r ∧ g d τ S fun τ1 S1 => gs r τ1 S1 R
def wgTup (n : Nat) (gs : WGs) : WG := fun d τ S R => ∃ ds, d = .tup ds ∧ ds.length = n ∧ gs ds τ S R
abbrev DSet := D → D → D → Sto → (Sto → Prop) → Prop
def rSetD (X : Cx) (op : DSet) : TSet := fun o i v H Q => ∃ ρ S d1 d2 d3 R, XW X ρ S H ∧ VR X.K ρ H d1 o ∧ VR X.K ρ H d2 i ∧ VR X.K ρ H d3 v ∧ op d1 d2 d3 S R ∧ ∀ S', R S' → ∀ ρ' H', Ext ρ H ρ' H' → XW X ρ' S' H' → Q H'
def wgSub (wo wi : WE) (op : DSet) : WG := fun d τ S R => wo τ S fun d1 S1 => wi τ S1 fun d2 S2 => op d1 d2 d S2 fun S3 => R τ S3
theorem PSet.or {X : Cx} {t t' : TSet} (h : PSet X t) (h' : PSet X t') : PSet X (fun o i v H Q => t o i v H Q ∨ t' o i v H Q) := fun pins s σ H o i v ov iv u Q I r1 r2 r3 q => q.elim (h pins s σ H o i v ov iv u Q I r1 r2 r3) (h' pins s σ H o i v ov iv u Q I r1 r2 r3)
theorem PSet.imp {X : Cx} {t t' : TSet} (h : PSet X t) (k : ∀ o i v H Q, t' o i v H Q → t o i v H Q) : PSet X t' := fun pins s σ H o i v ov iv u Q I r1 r2 r3 q => h pins s σ H o i v ov iv u Q I r1 r2 r3 (k o i v H Q q)
def setOr (o o' : DSet) : DSet := fun a b c S R => o a b c S R ∨ o' a b c S R
theorem SetD.or {X : Cx} {o o' : DSet} (h : PSet X (rSetD X o)) (h' : PSet X (rSetD X o')) : PSet X (rSetD X (setOr o o')) :=
  PSet.imp (PSet.or h h') fun a b c H Q ⟨ρ, S, d1, d2, d3, R, W, r1, r2, r3, q, p⟩ => q.imp (fun q => ⟨ρ, S, d1, d2, d3, R, W, r1, r2, r3, q, p⟩) fun q => ⟨ρ, S, d1, d2, d3, R, W, r1, r2, r3, q, p⟩
section
variable {X : Cx} {pos : Pos} {wg : WG} {wgs : WGs} {e o i : Expr} {es : List Expr} {wo wi we : WE}
theorem dg_name {i : Nat} {x : Str} (hN : X.N.Nodup) (hi : X.N[i]? = some x := by rfl) (hx : Loc X.env.scope x := by first | exact Or.inl rfl | exact Or.inr rfl) (hf : X.fn x = true ∨ X.env.scope.names.lookup x = some .local := by first | exact .inl rfl | exact .inr rfl | assumption) :
    PG X (.Name x pos) (dG X (wgName i)) := PG.imp (pg_name hN hi hx hf) fun v σ H Q ⟨ρ, τ, S, d, R, W, er, r, h, p⟩ => p _ _ h ρ H _ (Ext.refl _ _) W (er.set r)
theorem dgs_nil : PGs X [] (dGs X wgNil) := PGs.imp pgs_nil fun vs σ H Q ⟨ρ, τ, S, ds, R, W, er, r, ⟨e, h⟩, p⟩ => by
  subst e
  refine ⟨?_, p _ _ h ρ H _ (Ext.refl _ _) W er⟩
  have := r.length
  simpa using this
theorem dgs_cons (h1 : PG X e (dG X wg)) (h2 : PGs X es (dGs X wgs)) (hs : (assignEach (e :: es) X.env).map (·.2) = assign e X.env :: (assignEach es X.env).map (·.2) := by rfl) : PGs X (e :: es) (dGs X (wgCons wg wgs)) :=
  PGs.imp (pgs_cons h1 h2 hs) fun vs σ H Q ⟨ρ, τ, S, ds, R, W, er, r, ⟨d, dr, e1, h⟩, p⟩ => by
    subst e1
    unfold VRs at r
    obtain ⟨v, vr, rfl, r1, r2⟩ := r
    exact ⟨v, vr, rfl, ρ, τ, S, d, _, W, er, r1, h, fun τ1 S1 h1 ρ1 H1 σ1 x1 W1 er1 => ⟨ρ1, τ1, S1, dr, R, W1, er1, r2.ext W.sep x1, h1, p.ext W1 x1⟩⟩
theorem dg_tup {k n : Nat} (hc : X.calm = true) (h : PGs X es (dGs X wgs)) (hn : (assignEach es X.env).length = n := by rfl) (hst : (assignEach es X.env).findIdx? (·.1) = none := by rfl) : PG X (.Tuple es k pos) (dG X (wgTup n wgs)) :=
  PG.imp (pg_tup hc h hn hst) fun v σ H Q ⟨ρ, τ, S, d, R, W, er, r, ⟨ds, e1, hl, h⟩, p⟩ => by
    subst e1
    obtain ⟨a, vs, rfl, h1, h2⟩ := r.tup_of
    exact ⟨a, vs, rfl, h1.sq, h2.length.trans hl, ρ, τ, S, ds, R, W, er, h2, h, p⟩
theorem dg_sub {op : DSet} (ho : PE X o (dE X wo)) (hi : PE X i (dE X wi)) (hs : PSet X (rSetD X op))
    (ha : ∀ v, assign (.Subscript o i pos) X.env v = (do
      let ov ← holding [v] (eval o X.env)
      let iv ← holding [v, ov] (eval i X.env)
      standAt pos
      holding [v, ov, iv] (setItem ov iv v)
      release [v, ov, iv] []) := by intro _; rfl) : PG X (.Subscript o i pos) (dG X (wgSub wo wi op)) :=
  PG.imp (pg_sub ho hi hs ha) fun v σ H Q ⟨ρ, τ, S, d, R, W, er, r, h, p⟩ => ⟨ρ, τ, S, _, W, er, h, fun d1 S1 h1 ρ1 H1 v1 x1 W1 r1 => ⟨ρ1, τ, S1, _, W1, er.ext W.sep x1, h1, fun d2 S2 h2 ρ2 H2 v2 x2 W2 r2 =>
    ⟨ρ2, S2, d1, d2, d, _, W2, r1.ext W1.sep x2, r2, (r.ext W.sep x1).ext W1.sep x2, h2, fun S3 h3 ρ3 H3 x3 W3 => ((p.ext W1 x1).ext W2 x2) _ _ h3 ρ3 H3 σ x3 W3 (((er.ext W.sep x1).ext W1.sep x2).ext W2.sep x3)⟩⟩⟩

/-! ### assignments -/
def wAsg (we : WE) (g : WG) : WS := fun R τ S => we τ S fun d S1 => g d τ S1 R.nx
theorem asg_pass {σ : St} {H : Hp} {D : Ends} (h : dS X (wAsg we wg) D σ H) : tAsg (dE X we) (dG X wg) D σ H := by
  obtain ⟨ρ, τ, S, R, W, er, h, p1, p2, p3, p4⟩ := h
  exact ⟨ρ, τ, S, _, W, er, h, fun d S1 h1 ρ1 H1 v x1 W1 r => ⟨ρ1, τ, S1, d, R.nx, W1, er.ext W.sep x1, r, h1, p1.ext W1 x1⟩⟩
theorem ds_asg {tg : Expr} (he : PE X e (dE X we)) (hg : PG X tg (dG X wg)) (hs : swapsWithSole [tg] e pos.line X.env = pure false := by rfl) (hw : swappedStores [tg] e X.env = pure none := by rfl)
    (h1 : (assignEach [tg] X.env).map (·.2) = [assign tg X.env] := by rfl) : PS X (.Assign [tg] e pos) (dS X (wAsg we wg)) := PS.imp (ps_asg he hg hs hw h1) fun _ _ _ => asg_pass
theorem ds_set {i : Nat} {x : Str} {pos' : Pos} (hN : X.N.Nodup) (he : PE X e (dE X we)) (hi : X.N[i]? = some x := by rfl) (hx : Loc X.env.scope x := by first | exact Or.inl rfl | exact Or.inr rfl) (hs : swapsWith e (some (.Name x pos')) pos.line X.env = pure false := by rfl)
    (hf : X.fn x = true ∨ X.env.scope.names.lookup x = some .local := by first | exact .inl rfl | exact .inr rfl | assumption) : PS X (.Assign [.Name x pos'] e pos) (dS X (wAsg we (wgName i))) :=
  PS.imp (ps_set hN hi hx he hs hf) fun D σ H ⟨ρ, τ, S, R, W, er, h, p1, p2, p3, p4⟩ => ⟨ρ, τ, S, _, W, er, h, fun d S1 h1 ρ1 H1 v x1 W1 r => p1 _ _ h1 ρ1 H1 _ x1 W1 ((er.ext W.sep x1).set r)⟩
/-- a, b = x, y -/
def wPar (i j : Nat) (wr : WA) : WS := fun R τ S => wr τ S fun ds S1 => ∃ d c, ds = [d, c] ∧ R.nx ((τ.set i (some d)).set j (some c)) S1
theorem ds_par {i j : Nat} {x y : Str} {a b : Expr} {wr : WA} {px py pt : Pos} {kt k2 pt2} (hc : X.calm = true) (hN : X.N.Nodup) (hi : X.N[i]? = some x) (hj : X.N[j]? = some y) (hij : i ≠ j)
    (hx : X.env.scope.names.lookup x = some .local) (hy : X.env.scope.names.lookup y = some .local) (ha : PA X [a, b] (dA X wr))
    (hw : swappedStores [.Tuple [.Name x px, .Name y py] kt pt] (.Tuple [a, b] k2 pt2) X.env = pure (some [x, y]))
    (hs : swapsWithSole [.Tuple [.Name x px, .Name y py] kt pt] (.Tuple [a, b] k2 pt2) pos.line X.env = pure false := by rfl) :
    PS X (.Assign [.Tuple [.Name x px, .Name y py] kt pt] (.Tuple [a, b] k2 pt2) pos) (dS X (wPar i j wr)) :=
  PS.imp (ps_par hc hN hi hj hij hx hy ha hw hs) fun D σ H ⟨ρ, τ, S, R, W, er, h, p1, p2, p3, p4⟩ => ⟨ρ, τ, S, _, W, er, h, fun ds S1 ⟨d, c, e1, h1⟩ ρ1 H1 vs x1 W1 r => by
    subst e1
    unfold VRs at r
    obtain ⟨v, vr, rfl, r1, r2⟩ := r
    unfold VRs at r2
    obtain ⟨v2, vr2, rfl, r2, r3⟩ := r2
    have e3 : vr2 = [] := by unfold VRs at r3; exact r3
    subst e3
    exact ⟨v, v2, rfl, p1 _ _ h1 ρ1 H1 _ x1 W1 (((er.ext W.sep x1).set r1).set r2)⟩⟩
/-- x op= e -/
def rIpD (X : Cx) (op : DOp) : TIp := fun x y H Q => rD X op x y H Q
def wAug (i : Nat) (we : WE) (op : DOp) : WS := fun R τ S => ∃ d, τ[i]? = some (some d) ∧ we τ S fun c S1 => op d c S1 fun z S2 => R.nx (τ.set i (some z)) S2
theorem ds_aug {i : Nat} {x : Str} {op : Operator} {o : DOp} {pos' : Pos} (hN : X.N.Nodup) (he : PE X e (dE X we)) (ho : PIp X op (rD X o)) (hi : X.N[i]? = some x := by rfl) (hx : Loc X.env.scope x := by first | exact Or.inl rfl | exact Or.inr rfl)
    (hf : X.fn x = true ∨ X.env.scope.names.lookup x = some .local := by first | exact .inl rfl | exact .inr rfl | assumption) : PS X (.AugAssign (.Name x pos') op e pos) (dS X (wAug i we o)) :=
  PS.imp (ps_aug hN hi hx he ho hf) fun D σ H ⟨ρ, τ, S, R, W, er, ⟨d, h0, h⟩, p1, p2, p3, p4⟩ => by
    obtain ⟨v, h2, r⟩ := er.2 i d h0
    exact ⟨v, h2, ρ, τ, S, _, W, er, h, fun c S1 h1 ρ1 H1 y x1 W1 r1 => ⟨ρ1, S1, d, c, _, W1, r.ext W.sep x1, r1, h1, fun z S2 h2 ρ2 H2 zv x2 W2 r2 => (p1.ext W1 x1) _ _ h2 ρ2 H2 _ x2 W2 (((er.ext W.sep x1).ext W1.sep x2).set r2)⟩⟩
/-- o[i] op= e -/
def wAugS (wo wi we : WE) (get op : DOp) (set : DSet) : WS := fun R τ S => wo τ S fun d1 S1 => wi τ S1 fun d2 S2 => get d1 d2 S2 fun d3 S3 => we τ S3 fun d4 S4 => op d3 d4 S4 fun d5 S5 => set d1 d2 d5 S5 fun S6 => R.nx τ S6
theorem ds_augS {op : Operator} {get ip : DOp} {set : DSet} {tpos : Pos} (ho : PE X o (dE X wo)) (hi : PE X i (dE X wi)) (hg : PGet X (rD X get)) (he : PE X e (dE X we)) (hp : PIp X op (rD X ip)) (hs : PSet X (rSetD X set))
    (ha : ∀ ov iv new, augStore i ov iv new = (do holding [new, ov, iv] (setItem ov iv new); release [new, ov, iv] []; pure .next) := by intros; rfl) : PS X (.AugAssign (.Subscript o i tpos) op e pos) (dS X (wAugS wo wi we get ip set)) :=
  PS.imp (ps_augS ho hi hg he hp hs ha) fun D σ H ⟨ρ, τ, S, R, W, er, h, p1, p2, p3, p4⟩ => ⟨ρ, τ, S, _, W, er, h, fun d1 S1 h1 ρ1 H1 v1 x1 W1 r1 => ⟨ρ1, τ, S1, _, W1, er.ext W.sep x1, h1, fun d2 S2 h2 ρ2 H2 v2 x2 W2 r2 =>
    ⟨ρ2, S2, d1, d2, _, W2, r1.ext W1.sep x2, r2, h2, fun d3 S3 h3 ρ3 H3 v3 x3 W3 r3 => ⟨ρ3, τ, S3, _, W3, ((er.ext W.sep x1).ext W1.sep x2).ext W2.sep x3, h3, fun d4 S4 h4 ρ4 H4 v4 x4 W4 r4 =>
      ⟨ρ4, S4, d3, d4, _, W4, r3.ext W3.sep x4, r4, h4, fun d5 S5 h5 ρ5 H5 v5 x5 W5 r5 => ⟨ρ5, S5, d1, d2, d5, _, W5, (((r1.ext W1.sep x2).ext W2.sep x3).ext W3.sep x4).ext W4.sep x5, ((r2.ext W2.sep x3).ext W3.sep x4).ext W4.sep x5, r5, h5, fun S6 h6 ρ6 H6 x6 W6 =>
        (((((p1.ext W1 x1).ext W2 x2).ext W3 x3).ext W4 x4).ext W5 x5) _ _ h6 ρ6 H6 σ x6 W6 ((((((er.ext W.sep x1).ext W1.sep x2).ext W2.sep x3).ext W3.sep x4).ext W4.sep x5).ext W5.sep x6)⟩⟩⟩⟩⟩⟩
end

/-! ### while -/
def whileN (c : WT) (b : WS) : Nat → WS
  | 0 => fun _ _ _ => False
  | n + 1 => fun R τ S => c τ S fun v S1 => if v = true then b { nx := fun τ' S' => whileN c b n R τ' S', ct := fun τ' S' => whileN c b n R τ' S', bk := R.nx, rt := R.rt } τ S1 else R.nx τ S1
def wWhile (c : WT) (b : WS) : WS := fun R τ S => ∃ n, whileN c b n R τ S
theorem ds_while {X : Cx} {pos : Pos} {c : Expr} {body : List Stmt} {wc : WT} {wb : WS} (hp : PassesOwn (model X.prog X.w) X.A X.env X.xe) (hc : PT X c (dT X wc)) (hb : PSs X body (dS X wb)) : PS X (.While c body [] pos) (dS X (wWhile wc wb)) := by
  refine PS.imp (ps_while hp hc hb) fun D σ0 H0 ⟨ρ0, τ0, S0, R, W0, er0, ⟨n0, h0⟩, p1, p2, p3, p4⟩ => ?_
  refine ⟨fun m σ H => ∃ ρ τ S, XW X ρ S H ∧ ER X.K ρ H τ σ ∧ Ext ρ0 H0 ρ H ∧ whileN wc wb m R τ S, ⟨n0, ρ0, τ0, S0, W0, er0, Ext.refl _ _, h0⟩, ?_⟩
  rintro m σ H ⟨ρ, τ, S, W, er, x, h⟩
  cases m with
  | zero => exact h.elim
  | succ n =>
    refine ⟨ρ, τ, S, _, W, er, h, fun v S1 h1 ρ1 H1 x1 W1 => ?_⟩
    have x' := x.trans W.sep x1
    cases v with
    | true =>
      dsimp only
      rw [if_pos rfl] at h1 ⊢
      refine ⟨fun σ' H' => ∃ ρ τ S, XW X ρ S H' ∧ ER X.K ρ H' τ σ' ∧ Ext ρ0 H0 ρ H' ∧ whileN wc wb n R τ S, fun σ' H' q => ⟨n, Nat.lt_succ_self n, q⟩, ?_⟩
      exact ⟨ρ1, τ, S1, _, W1, er.ext W.sep x1, h1, fun τ2 S2 h2 ρ2 H2 σ2 x2 W2 er2 => ⟨ρ2, τ2, S2, W2, er2, x'.trans W1.sep x2, h2⟩, p2.ext W1 x', p1.ext W1 x', fun τ2 S2 h2 ρ2 H2 σ2 x2 W2 er2 => ⟨ρ2, τ2, S2, W2, er2, x'.trans W1.sep x2, h2⟩⟩
    | false =>
      dsimp only
      rw [if_neg Bool.false_ne_true] at h1 ⊢
      exact (p1.ext W1 x') _ _ h1 ρ1 H1 σ (Ext.refl _ _) W1 (er.ext W.sep x1)

/-! ### what is walked -/
/-- the items of a walk, and what must stay true of the store while it goes on -/
abbrev WI := DEnv → Sto → (List D → (Sto → Prop) → Sto → Prop) → Prop
structure JR (X : Cx) (J : It) (ρ0 : List Addr) (H0 : Hp) (items : List D) (chk : Sto → Prop) : Prop where
  go : ∀ (i : Nat) (d : D) (ρ : List Addr) (S : Sto) (H : Hp), Ext ρ0 H0 ρ H → XW X ρ S H → chk S → items[i]? = some d → J.go i H ∧ ∀ x H', J.yld i H x H' → Ext ρ H ρ H' ∧ XW X ρ S H' ∧ VR X.K ρ H' d x
  stop : ∀ (i : Nat) (ρ : List Addr) (S : Sto) (H : Hp), Ext ρ0 H0 ρ H → XW X ρ S H → chk S → items.length ≤ i → J.stop i H
def dI (X : Cx) (w : WI) : TI := fun σ H R => ∃ ρ τ S Rd, XW X ρ S H ∧ ER X.K ρ H τ σ ∧ w τ S Rd ∧ ∀ items chk S', Rd items chk S' → ∀ ρ' H' J, Ext ρ H ρ' H' → XW X ρ' S' H' → JR X J ρ' H' items chk → R J H'
theorem PI.imp {X : Cx} {tg e : Expr} {t t' : TI} (h : PI X tg e t) (k : ∀ σ H R, t' σ H R → t σ H R) : PI X tg e t' := ⟨fun pins s σ H R I q => h.run pins s σ H R I (k σ H R q)⟩
theorem PI.or {X : Cx} {tg e : Expr} {t t' : TI} (h : PI X tg e t) (h' : PI X tg e t') : PI X tg e (fun σ H R => t σ H R ∨ t' σ H R) := ⟨fun pins s σ H R I q => q.elim (h.run pins s σ H R I) (h'.run pins s σ H R I)⟩
def wiOr (w w' : WI) : WI := fun τ S R => w τ S R ∨ w' τ S R
theorem ID.or {X : Cx} {tg e : Expr} {w w' : WI} (h : PI X tg e (dI X w)) (h' : PI X tg e (dI X w')) : PI X tg e (dI X (wiOr w w')) :=
  PI.imp (PI.or h h') fun σ H R ⟨ρ, τ, S, Rd, W, er, q, p⟩ => q.imp (fun q => ⟨ρ, τ, S, Rd, W, er, q, p⟩) fun q => ⟨ρ, τ, S, Rd, W, er, q, p⟩

/-! ### for -/
/-- the body over the items, one by one -/
def forGo (chk : Sto → Prop) (g : WG) (b : WS) (R : DEnds) : List D → DEnv → Sto → Prop
  | [], τ, S => chk S ∧ R.nx τ S
  | d :: r, τ, S => chk S ∧ g d τ S fun τ1 S1 => b { nx := fun τ' S' => forGo chk g b R r τ' S', ct := fun τ' S' => forGo chk g b R r τ' S', bk := R.nx, rt := R.rt } τ1 S1
def wFor (wi : WI) (g : WG) (b : WS) : WS := fun R τ S => wi τ S fun items chk S1 => forGo chk g b R items τ S1
theorem forGo_chk {chk : Sto → Prop} {g : WG} {b : WS} {R : DEnds} : ∀ {items : List D} {τ : DEnv} {S : Sto}, forGo chk g b R items τ S → chk S
  | [], _, _, h => h.1
  | _ :: _, _, _, h => h.1
theorem ds_for {X : Cx} {pos : Pos} {tg iter : Expr} {body : List Stmt} {wi : WI} {wg : WG} {wb : WS} (hp : PassesOwn (model X.prog X.w) X.A X.env X.xe) (hc : X.calm = true) (hi : PI X tg iter (dI X wi)) (hg : PG X tg (dG X wg)) (hb : PSs X body (dS X wb))
    (hs : ∀ x, foldedSetIterable iter X.env x = pure x := by intro _; rfl) : PS X (.For tg iter body [] pos) (dS X (wFor wi wg wb)) := by
  refine PS.imp (ps_for hp hc hi hg hb hs) fun D σ0 H0 ⟨ρ0, τ0, S0, R, W0, er0, h0, p1, p2, p3, p4⟩ => ?_
  refine ⟨ρ0, τ0, S0, _, W0, er0, h0, fun items chk S1 h1 ρ1 H1 J x1 W1 jr => ?_⟩
  refine ⟨fun i m σ H => ∃ ρ τ S, XW X ρ S H ∧ ER X.K ρ H τ σ ∧ Ext ρ1 H1 ρ H ∧ m = items.length - i ∧ i ≤ items.length ∧ forGo chk wg wb R (items.drop i) τ S,
    ⟨items.length, ρ1, τ0, S1, W1, er0.ext W0.sep x1, Ext.refl _ _, rfl, Nat.zero_le _, by rw [List.drop_zero]; exact h1⟩, ?_⟩
  rintro i m σ H ⟨ρ, τ, S, W, er, x, rfl, hi', h⟩
  have xx := x1.trans W1.sep x
  by_cases hlt : i < items.length
  · rw [List.drop_eq_getElem_cons hlt] at h
    have hd : items[i]? = some items[i] := List.getElem?_eq_getElem hlt
    obtain ⟨go, yld⟩ := jr.go i _ ρ S H x W h.1 hd
    refine .inr ⟨go, fun σ' H' => ∃ ρ τ S, XW X ρ S H' ∧ ER X.K ρ H' τ σ' ∧ Ext ρ1 H1 ρ H' ∧ forGo chk wg wb R (items.drop (i + 1)) τ S,
      fun σ' H' ⟨ρ, τ, S, q1, q2, q3, q4⟩ => ⟨items.length - (i + 1), by omega, ρ, τ, S, q1, q2, q3, rfl, hlt, q4⟩, fun y H' hy => ?_⟩
    obtain ⟨x2, W2, r2⟩ := yld y H' hy
    refine ⟨ρ, τ, S, _, _, W2, er.ext W.sep x2, r2, h.2, fun τ3 S3 h3 ρ3 H3 σ3 x3 W3 er3 => ?_⟩
    have x23 := x2.trans W2.sep x3
    have xt := xx.trans W.sep x23
    exact ⟨ρ3, τ3, S3, _, W3, er3, h3, fun τ4 S4 h4 ρ4 H4 σ4 x4 W4 er4 => ⟨ρ4, τ4, S4, W4, er4, (x.trans W.sep x23).trans W3.sep x4, h4⟩, p2.ext W3 xt, p1.ext W3 xt,
      fun τ4 S4 h4 ρ4 H4 σ4 x4 W4 er4 => ⟨ρ4, τ4, S4, W4, er4, (x.trans W.sep x23).trans W3.sep x4, h4⟩⟩
  · have e : i = items.length := by omega
    subst e
    rw [List.drop_length] at h
    exact .inl ⟨jr.stop _ ρ S H x W h.1 (Nat.le_refl _), (p1.ext W xx) _ _ h.2 ρ H σ (Ext.refl _ _) W er⟩

/-! ### list comprehensions -/
def wipeD (τ : DEnv) : List Nat → DEnv
  | [] => τ
  | v :: vs => (wipeD τ vs).set v none
theorem ER.wipe {K : PySem.W.Frag} {ρ : List Addr} {H : Hp} {τ : DEnv} {σ : St} (er : ER K ρ H τ σ) : ∀ vs : List Nat, ER K ρ H (wipeD τ vs) (L2.wipe σ vs)
  | [] => er
  | v :: vs => by
    have ih := ER.wipe er vs
    unfold wipeD L2.wipe
    refine ⟨by simp [ih.1], fun j d h => ?_⟩
    by_cases hj : v = j
    · subst hj
      by_cases hl : v < (wipeD τ vs).length
      · rw [List.getElem?_set_self hl] at h
        cases h
      · rw [List.getElem?_eq_none (by simpa using hl)] at h
        cases h
    · rw [List.getElem?_set_ne hj] at h ⊢
      exact ih.2 j d h
/-- the items taken one by one; acc: what is made so far -/
def lcGo (chk : Sto → Prop) (g : WG) (t : WT) (e : WE) (τ : DEnv) (R : DQ) : List D → List D → Sto → Prop
  | [], acc, S => chk S ∧ R (.loc S.length) (S ++ [.lst acc])
  | d :: r, acc, S => chk S ∧ g d τ S fun τ1 S1 => t τ1 S1 fun b S2 => if b = true then e τ1 S2 fun y S3 => acc.length < sizeLine ∧ lcGo chk g t e τ R r (acc ++ [y]) S3 else lcGo chk g t e τ R r acc S2
def wLc (wi : WI) (g : WG) (t : WT) (e : WE) (vs : List Nat) : WE := fun τ S R => wi τ S fun items chk S1 => lcGo chk g t e (wipeD τ vs) R items [] S1
end Dl

namespace Dl
open PySem L2

/-- a comprehension's target that stores in the places vs alone -/
def Own (X : Cx) (g : TG) (wg : WG) (vs : List Nat) : Prop :=
  ∀ (ρ : List Addr) (S : Sto) (H : Hp) (τ : DEnv) (σ : St) (d : D) (v : V) (R : DEnv → Sto → Prop) (Q : St → Hp → Prop), XW X ρ S H → ER X.K ρ H τ σ → VR X.K ρ H d v → wg d τ S R →
    (∀ τ' σ', R τ' S → ER X.K ρ H τ' σ' → L2.wipe σ' vs = L2.wipe σ vs → Q σ' H) → g v σ H Q
theorem wipe_out {i : Nat} {o : Option V} : ∀ (ws : List Nat) (σ : St), i ∉ ws → L2.wipe (σ.set i o) ws = (L2.wipe σ ws).set i o
  | [], σ, _ => rfl
  | w :: ws, σ, hw => by
    unfold L2.wipe
    rw [wipe_out ws σ (fun z => hw (List.mem_cons_of_mem _ z)), List.set_comm _ _ (fun z => hw (by rw [z]; exact List.mem_cons_self))]
theorem wipe_set {σ : St} {i : Nat} {o : Option V} : ∀ {vs : List Nat}, i ∈ vs → L2.wipe (σ.set i o) vs = L2.wipe σ vs
  | v :: vs, h => by
    unfold L2.wipe
    by_cases hi : i ∈ vs
    · rw [wipe_set hi]
    · have e : i = v := by
        rcases List.mem_cons.mp h with e | e
        · exact e
        · exact absurd e hi
      subst e
      rw [wipe_out vs σ hi, List.set_set]
theorem wipe_wipe (σ : St) : ∀ vs : List Nat, L2.wipe (L2.wipe σ vs) vs = L2.wipe σ vs
  | [] => rfl
  | v :: vs => by
    show (L2.wipe ((L2.wipe σ vs).set v none) vs).set v none = (L2.wipe σ vs).set v none
    by_cases hi : v ∈ vs
    · rw [wipe_set hi, wipe_wipe σ vs]
    · rw [wipe_out vs _ hi, wipe_wipe σ vs, List.set_set]
theorem own_name {X : Cx} {i : Nat} {vs : List Nat} (h : i ∈ vs) : Own X (gName i) (wgName i) vs := fun ρ S H τ σ d v R Q W er r q k => k _ _ q (er.set r) (wipe_set h)
theorem own_tup2 {X : Cx} {i j : Nat} {vs : List Nat} (h : i ∈ vs) (h2 : j ∈ vs) : Own X (gTup X.K 2 (gCons (gName i) (gCons (gName j) gNil))) (wgTup 2 (wgCons (wgName i) (wgCons (wgName j) wgNil))) vs :=
  fun ρ S H τ σ d v R Q W er r ⟨ds, e1, hl, q⟩ k => by
    subst e1
    obtain ⟨a, us, rfl, h3, h4⟩ := r.tup_of
    obtain ⟨d1, r1, rfl, d2, r2, rfl, rfl, q⟩ := q
    unfold VRs at h4
    obtain ⟨v1, vr1, rfl, h5, h6⟩ := h4
    unfold VRs at h6
    obtain ⟨v2, vr2, rfl, h7, h8⟩ := h6
    have e3 : vr2 = [] := by unfold VRs at h8; exact h8
    subst e3
    exact ⟨a, _, rfl, h3.sq, rfl, v1, _, rfl, v2, _, rfl, rfl, k _ _ q ((er.set h5).set h7) (by rw [wipe_set h2, wipe_set h])⟩
theorem own_tup3 {X : Cx} {i j m : Nat} {vs : List Nat} (h : i ∈ vs) (h2 : j ∈ vs) (hm : m ∈ vs) : Own X (gTup X.K 3 (gCons (gName i) (gCons (gName j) (gCons (gName m) gNil)))) (wgTup 3 (wgCons (wgName i) (wgCons (wgName j) (wgCons (wgName m) wgNil)))) vs :=
  fun ρ S H τ σ d v R Q W er r ⟨ds, e1, hl, q⟩ k => by
    subst e1
    obtain ⟨a, us, rfl, h3, h4⟩ := r.tup_of
    obtain ⟨d1, r1, rfl, d2, r2, rfl, d3, r3, rfl, rfl, q⟩ := q
    unfold VRs at h4
    obtain ⟨v1, vr1, rfl, h5, h6⟩ := h4
    unfold VRs at h6
    obtain ⟨v2, vr2, rfl, h7, h8⟩ := h6
    unfold VRs at h8
    obtain ⟨v3, vr3, rfl, h9, h10⟩ := h8
    have e3 : vr3 = [] := by unfold VRs at h10; exact h10
    subst e3
    exact ⟨a, _, rfl, h3.sq, rfl, v1, _, rfl, v2, _, rfl, v3, _, rfl, rfl, k _ _ q (((er.set h5).set h7).set h9) (by rw [wipe_set hm, wipe_set h2, wipe_set h])⟩

/-- the tests of a comprehension -/
theorem PTs.imp {X : Cx} {es : List Expr} {t t' : TT} (h : PTs X es t) (k : ∀ σ H Q, t' σ H Q → t σ H Q) : PTs X es t' := ⟨fun pins s σ H Q I q => h.run pins s σ H Q I (k σ H Q q)⟩
def wYes : WT := fun _ S R => R true S
theorem dts_nil {X : Cx} : PTs X [] (dT X wYes) := PTs.imp pts_nil fun σ H Q ⟨ρ, τ, S, R, W, er, h, p⟩ => p _ _ h ρ H (Ext.refl _ _) W
theorem dts_one {X : Cx} {c : Expr} {w : WT} (h : PT X c (dT X w)) : PTs X [c] (dT X w) := pts_one h

theorem lc_pass {X : Cx} {wi : WI} {g : TG} {wg : WG} {wt : WT} {we : WE} {vs : List Nat} (ow : Own X g wg vs) {σ : St} {H : Hp} {Q : VK} (h : dE X (wLc wi wg wt we vs) σ H Q) : tLc (dI X wi) g (dT X wt) (dE X we) vs σ H Q := by
  obtain ⟨ρ0, τ0, S0, R, W0, er0, h0, p⟩ := h
  refine ⟨ρ0, τ0, S0, _, W0, er0, h0, fun items chk S1 h1 ρ1 H1 J x1 W1 jr => fun D hD => ?_⟩
  have er1 := (er0.ext W0.sep x1).wipe vs
  have pq := p.ext W1 x1
  refine ⟨fun i m H => ∃ ρ S acc accV, XW X ρ S H ∧ Ext ρ1 H1 ρ H ∧ D ∉ ρ ∧ H D = some (.lst accV) ∧ VRs X.K ρ H acc accV ∧ lcGo chk wg wt we (wipeD τ0 vs) R (items.drop i) acc S ∧ m = items.length - i ∧ i ≤ items.length,
    ⟨items.length, ρ1, S1, [], [], W1.laid hD, ext_new hD, W1.notin hD, upd_same, .nil, by rw [List.drop_zero]; exact h1, rfl, Nat.zero_le _⟩, ?_⟩
  rintro i m H ⟨ρ, S, acc, accV, W, x, hDn, hDH, ra, hl, rfl, hi⟩
  by_cases hlt : i < items.length
  · rw [List.drop_eq_getElem_cons hlt] at hl
    have hd : items[i]? = some items[i] := List.getElem?_eq_getElem hlt
    obtain ⟨go, yld⟩ := jr.go i _ ρ S H x W hl.1 hd
    refine .inr ⟨go, fun H' => ∃ ρ S acc accV, XW X ρ S H' ∧ Ext ρ1 H1 ρ H' ∧ D ∉ ρ ∧ H' D = some (.lst accV) ∧ VRs X.K ρ H' acc accV ∧ lcGo chk wg wt we (wipeD τ0 vs) R (items.drop (i + 1)) acc S,
      fun H' ⟨ρ, S, acc, accV, q1, q2, q3, q4, q5, q6⟩ => ⟨items.length - (i + 1), by omega, ρ, S, acc, accV, q1, q2, q3, q4, q5, q6, rfl, hlt⟩, fun y H' hy => ?_⟩
    obtain ⟨x2, W2, r2⟩ := yld y H' hy
    have xa := x.trans W.sep x2
    have hDH2 := x2.keep D _ hDH hDn
    have ra2 := VRs.ext W.sep x2 _ _ ra
    refine ow ρ S H' _ _ _ y _ _ W2 (er1.ext W1.sep xa) r2 hl.2 fun τ' σ' h3 er3 wp => ⟨wp.trans (wipe_wipe _ _), ?_⟩
    refine ⟨ρ, τ', S, _, W2, er3, h3, fun b S4 h4 ρ4 H4 x4 W4 => ?_⟩
    have keepD : ∀ {ρa ρb : List Addr} {Ha Hb : Hp} {u : HO}, Ext ρa Ha ρb Hb → D ∉ ρa → Ha D = some u → D ∉ ρb ∧ Hb D = some u := fun {ρa ρb Ha Hb u} e n hh => by
      refine ⟨fun hm => ?_, e.keep D _ hh n⟩
      obtain ⟨more, rfl, hmore⟩ := e.pre
      rcases List.mem_append.mp hm with z | z
      · exact n z
      · have := hmore D z
        rw [hh] at this
        cases this
    obtain ⟨hDn4, hDH4⟩ := keepD x4 hDn hDH2
    have ra4 := VRs.ext W2.sep x4 _ _ ra2
    have xb := xa.trans W2.sep x4
    cases b with
    | false =>
      dsimp only
      rw [if_neg Bool.false_ne_true] at h4 ⊢
      exact ⟨ρ4, S4, acc, accV, W4, xb, hDn4, hDH4, ra4, h4⟩
    | true =>
      dsimp only
      rw [if_pos rfl] at h4 ⊢
      refine ⟨ρ4, τ', S4, _, W4, er3.ext W2.sep x4, h4, fun z S5 ⟨hz, h5⟩ ρ5 H5 zv x5 W5 r5 => ?_⟩
      obtain ⟨hDn5, hDH5⟩ := keepD x5 hDn4 hDH4
      have ra5 := VRs.ext W4.sep x5 _ _ ra4
      have xc := xb.trans W4.sep x5
      have vx : VX ρ5 H5 ρ5 (upd H5 D (.lst (accV ++ [zv]))) := vx_upd hDH5 (fun vs q => by cases q) (fun a b q => by cases q)
      refine ⟨accV, hDH5, by rw [ra.length]; exact hz, ρ5, S5, acc ++ [z], accV ++ [zv], W5.aside hDn5 hDH5 (fun vs q => by cases q) (fun a b q => by cases q), ⟨xc.pre, fun a o ha hn => ?_⟩, hDn5, upd_same, VRs.vx vx _ _ (ra5.snoc r5), h5⟩
      have ne : a ≠ D := fun e => by
        rw [e, hD] at ha
        cases ha
      rw [upd_ne ne]
      exact xc.keep a o ha hn
  · have e : i = items.length := by omega
    subst e
    rw [List.drop_length] at hl
    refine .inl ⟨jr.stop _ ρ S H x W hl.1 (Nat.le_refl _), ?_⟩
    have vx : VX ρ H (ρ ++ [D]) H := ⟨fun l a h => by
      rw [List.getElem?_append_left (List.getElem?_eq_some_iff.mp h).1]
      exact h, fun _ _ h => h, fun _ _ _ h => h⟩
    refine pq _ _ hl.2 (ρ ++ [D]) H _ ⟨?_, x.keep⟩ (W.adopt hDn ⟨accV, hDH, VRs.vx vx _ _ ra⟩) (.loc (by rw [← W.len]; exact List.getElem?_concat_length ..))
    obtain ⟨more, e, hmore⟩ := x.pre
    refine ⟨more ++ [D], by rw [e, List.append_assoc], fun a ha => ?_⟩
    rcases List.mem_append.mp ha with z | z
    · exact hmore a z
    · have e2 : a = D := by simpa using z
      rw [e2]
      exact hD
section
variable {X : Cx} {elt tg iter : Expr} {ifs : List Expr} {scope : Scope} {own : List (Str × Nat)} {pos spos : Pos} {wi : WI} {g : TG} {wg : WG} {wt : WT} {we : WE}
theorem de_lc (ow : Own X g wg (own.map (·.2))) (hc : X.calm = true) (hN : X.N.Nodup) (hi : PI X tg iter (dI X wi)) (ok : BlkOk X.N X.env.scope scope own)
    (hg : ∀ (s : Shared) (H : Hp) (C : Addr) (cl : List (Str × Addr)) (fp : List Addr), PG (X.blk s H scope (compEnvC scope cl C X.env) fp) tg g) (ht : ∀ (s : Shared) (H : Hp) (C : Addr) (cl : List (Str × Addr)) (fp : List Addr), PTs (X.blk s H scope (compEnvC scope cl C X.env) fp) ifs (dT X wt))
    (he : ∀ (s : Shared) (H : Hp) (C : Addr) (cl : List (Str × Addr)) (fp : List Addr), PE (X.blk s H scope (compEnvC scope cl C X.env) fp) elt (dE X we)) (hs : ∀ x, foldedSetIterable iter X.env x = pure x := by intro _; rfl) :
    PE X (.ListComp elt [⟨tg, iter, ifs, 0⟩] scope pos) (dE X (wLc wi wg wt we (own.map (·.2)))) := PE.imp (pe_lc hc hN hi ok hg ht he hs) fun _ _ _ => lc_pass ow
/-- name = [..] on one line -/
theorem ds_setLc (ow : Own X g wg (own.map (·.2))) {i : Nat} {y : Str} {py : Pos} (hc : X.calm = true) (hN : X.N.Nodup) (hy : X.N[i]? = some y) (hyl : X.env.scope.names.lookup y = some .local)
    (hsw : swapsWith (.ListComp elt [⟨tg, iter, ifs, 0⟩] scope pos) (some (.Name y py)) spos.line X.env = pure true) (hi : PI X tg iter (dI X wi)) (ok : BlkOk X.N X.env.scope scope own)
    (hg : ∀ (s : Shared) (H : Hp) (C : Addr) (cl : List (Str × Addr)) (fp : List Addr), PG (X.blk s H scope (compEnvC scope cl C X.env) fp) tg g) (ht : ∀ (s : Shared) (H : Hp) (C : Addr) (cl : List (Str × Addr)) (fp : List Addr), PTs (X.blk s H scope (compEnvC scope cl C X.env) fp) ifs (dT X wt))
    (he : ∀ (s : Shared) (H : Hp) (C : Addr) (cl : List (Str × Addr)) (fp : List Addr), PE (X.blk s H scope (compEnvC scope cl C X.env) fp) elt (dE X we)) (hs : ∀ x, foldedSetIterable iter X.env x = pure x := by intro _; rfl) :
    PS X (.Assign [.Name y py] (.ListComp elt [⟨tg, iter, ifs, 0⟩] scope pos) spos) (dS X (wAsg (wLc wi wg wt we (own.map (·.2))) (wgName i))) :=
  PS.imp (ps_setLc hc hN hy hyl hsw hi ok hg ht he hs) fun D σ H ⟨ρ, τ, S, R, W, er, h, p1, p2, p3, p4⟩ =>
    lc_pass ow ⟨ρ, τ, S, _, W, er, h, fun d S1 h1 ρ1 H1 v x1 W1 r => p1 _ _ h1 ρ1 H1 _ x1 W1 ((er.ext W.sep x1).set r)⟩
end
end Dl

namespace Dl
open PySem L2

/-! ## a dict walked: its keys, its values -/
theorem relV_one {x y : V} {u : Value} (h1 : RelV x u) (h2 : RelV y u) : x = y := by
  cases x <;> cases y <;> simp only [RelV] at h1 h2
  all_goals first
    | rfl
    | (obtain ⟨t, h1⟩ := h1
       obtain ⟨t2, h2⟩ := h2
       rw [h1] at h2
       cases h2 <;> rfl)
    | (obtain ⟨t, h1⟩ := h1
       rw [h1] at h2
       cases h2 <;> rfl)
    | (obtain ⟨t2, h2⟩ := h2
       rw [h1] at h2
       cases h2 <;> rfl)
    | (rw [h1] at h2
       cases h2 <;> rfl)
theorem heap_size : ∀ n : Nat, ∃ h : Heap, h.objs.size = n
  | 0 => ⟨{ objs := #[] }, rfl⟩
  | n + 1 => by
    obtain ⟨h, e⟩ := heap_size n
    exact ⟨h.push { cls := .none, data := .fields #[] }, by simp [Heap.push, e]⟩
theorem dictObj_inj {a : Addr} {es es' : Array DictEntry} {ep ep' : Nat} (h : HO.ext (DictObj a es ep) = HO.ext (DictObj a es' ep')) : es = es' ∧ ep = ep' := by
  have h' : DictObj a es ep = DictObj a es' ep' := by
    injection h
  obtain ⟨h0, e⟩ := heap_size a
  have k : DictObj a es ep (h0.push { cls := .type "dict", data := .dict es ep }) := ⟨_, by rw [← e]; exact Heap.get?_push_size _ rfl, ⟨rfl, rfl, rfl⟩, rfl⟩
  rw [h'] at k
  obtain ⟨o, h1, _, h2⟩ := k
  rw [← e, Heap.get?_push_size _ rfl] at h1
  cases h1
  cases h2
  exact ⟨rfl, rfl⟩
/-- the dict at a with n entries and the count ep, one after the other: what f takes of each -/
def Itx (f : DictEntry → Value) (a : Addr) (n ep : Nat) : It :=
  ⟨fun i H => i < n ∧ ∃ es, H a = some (.ext (DictObj a es ep)) ∧ es.size = n ∧ ∀ u, es[i]?.map f = some u → ∃ x, RelV x u,
   fun i H x H' => H' = H ∧ ∃ es u, H a = some (.ext (DictObj a es ep)) ∧ es[i]?.map f = some u ∧ RelV x u,
   fun i H => n ≤ i ∧ ∃ es, H a = some (.ext (DictObj a es ep)) ∧ es.size = n⟩
section
variable {P : Program} {w : World} {K : PySem.W.Frag} {tg : Expr} {a : Addr} {n ep : Nat}
theorem turn_kx (it : Addr) : Turn P w K tg (Itx (·.key) a n ep) [it] it (fun i h => h.IsKeyIter it a i n ep) where
  mem := by simp
  obj := fun i h st b hb => by
    have eb : b = it := List.mem_singleton.mp hb
    subst eb
    obtain ⟨oi, e1, c1, d1⟩ := st
    exact ⟨oi, e1, fun z q => by rw [d1] at q; cases q⟩
  keep := fun i h h' st k => st.at fun oi e1 => k it (by simp) oi e1
  item := by
    intro X hP hw hK hc i pins s σ H E I hf st ⟨hi, es, hd, hz, hx⟩
    subst hP hw hK
    obtain ⟨g0, g1, g2, g3, g4, g5⟩ := hf it (by simp)
    obtain ⟨r1, _⟩ := I.hok a _ hd
    subst hz
    have he : es[i]?.map (·.key) = some es[i].key := by rw [Array.getElem?_eq_getElem hi]; rfl
    obtain ⟨x, rx⟩ := hx _ he
    refine wpAny_pyNext_keys_item_raw st r1 hi fun h' st' sb => ?_
    have I1 : L2.Inv X pins σ H { s with heap := h' } := I.turned (t' := s.toks) (fun b ob nb e1 => (sb.2 b nb).trans e1) g0 g1 g3 g4 g5
    obtain ⟨oi, e1, c1, d1⟩ := id st'
    exact ⟨_, rfl, go_of (s := { s with heap := h' }) e1 c1 d1 (by decide) ⟨x, H, I1, rx, ⟨rfl, es, _, hd, he, rx⟩, st', fun b hb => (hf b hb).1⟩⟩
  done := by
    intro X hP hw hK hc i pins s σ H E I hf st ⟨hi, es, hd, hz⟩
    subst hP hw hK
    obtain ⟨g0, g1, g2, g3, g4, g5⟩ := hf it (by simp)
    obtain ⟨r1, _⟩ := I.hok a _ hd
    subst hz
    exact wpAny_pyNext_keys_end_raw (I.ok.hd hc) st r1 hi fun h' eb => ⟨rfl, I.turned (t' := s.toks) (fun b ob nb e1 => eb b ob nb e1) g0 g1 g3 g4 g5⟩
  self := fun A i s Q E st h => wpAny_pyIter_keyiter st h
theorem turn_vx (it : Addr) : Turn P w K tg (Itx (·.val) a n ep) [it] it (fun i h => h.IsValIter it a i n ep) where
  mem := by simp
  obj := fun i h st b hb => by
    have eb : b = it := List.mem_singleton.mp hb
    subst eb
    obtain ⟨oi, e1, c1, d1⟩ := st
    exact ⟨oi, e1, fun z q => by rw [d1] at q; cases q⟩
  keep := fun i h h' st k => st.at fun oi e1 => k it (by simp) oi e1
  item := by
    intro X hP hw hK hc i pins s σ H E I hf st ⟨hi, es, hd, hz, hx⟩
    subst hP hw hK
    obtain ⟨g0, g1, g2, g3, g4, g5⟩ := hf it (by simp)
    obtain ⟨r1, _⟩ := I.hok a _ hd
    subst hz
    have he : es[i]?.map (·.val) = some es[i].val := by rw [Array.getElem?_eq_getElem hi]; rfl
    obtain ⟨x, rx⟩ := hx _ he
    refine wpAny_pyNext_values_item_raw st r1 hi fun h' st' sb => ?_
    have I1 : L2.Inv X pins σ H { s with heap := h' } := I.turned (t' := s.toks) (fun b ob nb e1 => (sb.2 b nb).trans e1) g0 g1 g3 g4 g5
    obtain ⟨oi, e1, c1, d1⟩ := id st'
    exact ⟨_, rfl, go_of (s := { s with heap := h' }) e1 c1 d1 (by decide) ⟨x, H, I1, rx, ⟨rfl, es, _, hd, he, rx⟩, st', fun b hb => (hf b hb).1⟩⟩
  done := by
    intro X hP hw hK hc i pins s σ H E I hf st ⟨hi, es, hd, hz⟩
    subst hP hw hK
    obtain ⟨g0, g1, g2, g3, g4, g5⟩ := hf it (by simp)
    obtain ⟨r1, _⟩ := I.hok a _ hd
    subst hz
    exact wpAny_pyNext_values_end_raw (I.ok.hd hc) st r1 hi fun h' eb => ⟨rfl, I.turned (t' := s.toks) (fun b ob nb e1 => eb b ob nb e1) g0 g1 g3 g4 g5⟩
  self := fun A i s Q E st h => wpAny_pyIter_valiter st h
end
/-- the dict at l, as it is walked -/
theorem jr_dict {X : Cx} {ρ : List Addr} {H : Hp} {l : Nat} {a : Addr} {n ep : Nat} {kvs : List (D × D)} {f : DictEntry → Value} {g : D × D → D} (h : ρ[l]? = some a) (hn : kvs.length = n)
    (hf : ∀ ρ' H' p e, EntR X.w X.K ρ' H' p e → ∃ v, VR X.K ρ' H' (g p) v ∧ RelV v (f e)) : JR X (Itx f a n ep) ρ H (kvs.map g) (fun S => S[l]? = some (.dct ep kvs)) where
  go := fun i d ρ' S' H' x W' hc hd => by
    obtain ⟨h1, h2, h3, es, h4, h5⟩ := W'.obj l a _ (x.get h) hc
    have hl : kvs.length = es.size := (Paired.length h5).trans Array.length_toList
    rw [List.getElem?_map] at hd
    cases q : kvs[i]? with
    | none =>
      rw [q] at hd
      cases hd
    | some p =>
      rw [q] at hd
      cases hd
      have hi : i < kvs.length := (List.getElem?_eq_some_iff.mp q).1
      have he : es[i]? = some es[i] := Array.getElem?_eq_getElem (by omega)
      have hp : EntR X.w X.K ρ' H' p es[i] := by
        have : ∀ {l1 : List (D × D)} {l2 : List DictEntry} {j : Nat} {y : D × D} {z : DictEntry}, Paired (EntR X.w X.K ρ' H') l1 l2 → l1[j]? = some y → l2[j]? = some z → EntR X.w X.K ρ' H' y z := by
          intro l1 l2 j y z hpr
          induction hpr generalizing j with
          | nil => intro e1 _; simp at e1
          | cons r t ih =>
            cases j with
            | zero =>
              intro e1 e2
              simp only [List.getElem?_cons_zero, Option.some.injEq] at e1 e2
              subst e1 e2
              exact r
            | succ j => exact ih
        exact this h5 q (by rw [Array.getElem?_toList]; exact he)
      obtain ⟨v, r1, r2⟩ := hf _ _ _ _ hp
      refine ⟨⟨by omega, es, h4, by omega, fun u hu => ?_⟩, fun y H2 ⟨e1, es', u, h6, h7, h8⟩ => ?_⟩
      · rw [he] at hu
        cases hu
        exact ⟨v, r2⟩
      · subst e1
        rw [h4] at h6
        obtain ⟨rfl, _⟩ := dictObj_inj (Option.some.inj h6)
        rw [he] at h7
        cases h7
        cases relV_one h8 r2
        exact ⟨Ext.refl _ _, W', r1⟩
  stop := fun i ρ' S' H' x W' hc hi => by
    obtain ⟨h1, h2, h3, es, h4, h5⟩ := W'.obj l a _ (x.get h) hc
    have hl : kvs.length = es.size := (Paired.length h5).trans Array.length_toList
    exact ⟨by simpa [hn] using hi, es, h4, by omega⟩
end Dl

namespace Dl
open PySem L2 RZ

/-! ## what is walked: lists, tuples, texts, ranges, zip, enumerate -/
theorem VRs.inj_get {K : PySem.W.Frag} {ρ : List Addr} {H : Hp} {ds : List D} {vs : List V} {i : Nat} {d : D} {x : V} (r : VRs K ρ H ds vs) (h : ds[i]? = some d) (hx : vs[i]? = some x) : VR K ρ H d x := by
  obtain ⟨v, h1, h2⟩ := r.get h
  rw [hx] at h1
  cases h1
  exact h2
section
variable {X : Cx}
/-- what stands still at an address as a list -/
def LstHas (X : Cx) (ρ0 : List Addr) (H0 : Hp) (a : Addr) (items : List D) (chk : Sto → Prop) : Prop := ∀ (ρ : List Addr) (S : Sto) (H : Hp), Ext ρ0 H0 ρ H → XW X ρ S H → chk S → ∃ vs, SqL X.K H a vs ∧ VRs X.K ρ H items vs
def TupHas (X : Cx) (ρ0 : List Addr) (H0 : Hp) (a : Addr) (items : List D) : Prop := ∀ (ρ : List Addr) (S : Sto) (H : Hp), Ext ρ0 H0 ρ H → XW X ρ S H → ∃ vs, SqT X.K H a vs ∧ VRs X.K ρ H items vs
theorem lstHas_loc {ρ : List Addr} {H : Hp} {l : Nat} {a : Addr} {xs : List D} (h : ρ[l]? = some a) : LstHas X ρ H a xs (fun S => S[l]? = some (.lst xs)) := fun ρ' S' H' x W' hc => by
  obtain ⟨vs, h1, h2⟩ := W'.obj l a _ (x.get h) hc
  exact ⟨vs, SqL.of h1, h2⟩
theorem lstHas_fls {ρ : List Addr} {S : Sto} {H : Hp} {a : Addr} {xs : List D} {vs : List V} (W : XW X ρ S H) (h : FlsAt X.K H a vs) (r : VRs X.K ρ H xs vs) : LstHas X ρ H a xs (fun _ => True) := fun ρ' S' H' x W' _ =>
  ⟨vs, (h.keep fun o q => (x.vx W.sep).frz a _ _ q).sq, VRs.ext W.sep x _ _ r⟩
theorem tupHas {ρ : List Addr} {S : Sto} {H : Hp} {a : Addr} {xs : List D} {vs : List V} (W : XW X ρ S H) (h : TupAt X.K H a vs) (r : VRs X.K ρ H xs vs) : TupHas X ρ H a xs := fun ρ' S' H' x W' =>
  ⟨vs, (h.keep fun q => (x.vx W.sep).tup a _ q).sq, VRs.ext W.sep x _ _ r⟩
theorem jr_list {ρ : List Addr} {H : Hp} {a : Addr} {xs : List D} {chk : Sto → Prop} (h : LstHas X ρ H a xs chk) : JR X (Itl X.K a) ρ H xs chk where
  go := fun i d ρ' S' H' x W' hc hd => by
    obtain ⟨vs, h1, h2⟩ := h ρ' S' H' x W' hc
    obtain ⟨v, h3, h4⟩ := h2.get hd
    refine ⟨⟨vs, v, h1, h3⟩, fun y H2 ⟨e, k⟩ => ?_⟩
    subst e
    exact ⟨Ext.refl _ _, W', h2.inj_get hd (k vs h1)⟩
  stop := fun i ρ' S' H' x W' hc hi => by
    obtain ⟨vs, h1, h2⟩ := h ρ' S' H' x W' hc
    exact ⟨vs, h1, by rw [h2.length]; exact hi⟩
theorem jr_tup {ρ : List Addr} {H : Hp} {a : Addr} {xs : List D} (h : TupHas X ρ H a xs) : JR X (Itt X.K a) ρ H xs (fun _ => True) where
  go := fun i d ρ' S' H' x W' hc hd => by
    obtain ⟨vs, h1, h2⟩ := h ρ' S' H' x W'
    obtain ⟨v, h3, h4⟩ := h2.get hd
    refine ⟨⟨vs, v, h1, h3⟩, fun y H2 ⟨e, k⟩ => ?_⟩
    subst e
    exact ⟨Ext.refl _ _, W', h2.inj_get hd (k vs h1)⟩
  stop := fun i ρ' S' H' x W' hc hi => by
    obtain ⟨vs, h1, h2⟩ := h ρ' S' H' x W'
    exact ⟨vs, h1, by rw [h2.length]; exact hi⟩
/-- the signs of a text -/
def signsD (x : Str) : List D := x.cps.toList.map fun c => D.str ⟨#[c]⟩
theorem jr_str {ρ : List Addr} {H : Hp} (x : Str) : JR X (Its x) ρ H (signsD x) (fun _ => True) where
  go := fun i d ρ' S' H' xx W' hc hd => by
    unfold signsD at hd
    rw [List.getElem?_map] at hd
    cases e : x.cps.toList[i]? with
    | none =>
      rw [e] at hd
      cases hd
    | some c =>
      rw [e] at hd
      cases hd
      have hl : i < x.cps.size := by
        have := (List.getElem?_eq_some_iff.mp e).1
        simpa using this
      have e2 : x.cps[i]? = some c := by simpa using e
      refine ⟨hl, fun y H2 ⟨e3, c', h4, h5⟩ => ?_⟩
      subst e3
      rw [e2] at h4
      cases h4
      rw [h5]
      exact ⟨Ext.refl _ _, W', .str⟩
  stop := fun i ρ' S' H' xx W' hc hi => by
    have : x.cps.size ≤ i := by
      unfold signsD at hi
      simpa using hi
    exact this
/-- a value walked -/
def iAny (K : PySem.W.Frag) (tl : TE) : TI := fun σ H R => tl σ H fun x H1 => (∃ a, x = .ref a ∧ (∃ xs, SqL K H1 a xs) ∧ R (Itl K a) H1) ∨ (∃ a, x = .ref a ∧ (∃ xs, SqT K H1 a xs) ∧ R (Itt K a) H1) ∨ (∃ z, x = .str z ∧ R (Its z) H1) ∨ ∃ a es ep, x = .ref a ∧ (a == sysModules) = false ∧ H1 a = some (.ext (DictObj a es ep)) ∧ R (Itx (·.key) a es.size ep) H1
theorem pi_any {tg l : Expr} {tl : TE} (hl : PE X l tl) : PI X tg l (iAny X.K tl) := by
  refine ⟨fun pins s σ H R I h => ?_⟩
  refine thn (hl.run pins s σ H _ I h) fun v s1 ⟨x, H1, I1, r1, q1⟩ => ?_
  have fp : ∀ b ∈ [s1.heap.objs.size], FpOk X pins H1 b := fun b hb => by
    have e : b = s1.heap.objs.size := by simpa using hb
    subst e
    exact I1.fpOk (Nat.le_refl _) (I1.hok.fresh (Nat.le_refl _))
  rcases q1 with ⟨a, e, ⟨xs, hq⟩, q⟩ | ⟨a, e, ⟨xs, hq⟩, q⟩ | ⟨z, e, q⟩ | ⟨a, es, ep, e, hs, hd, q⟩
  · subst e
    cases r1
    obtain ⟨its, rv, p, hz⟩ := I1.list hq
    exact wpAny_pyIter_list p.isList ⟨_, _, _, _, H1, rfl, I1.kept (t' := s1.toks) fun b o e => Heap.get?_push_of_some _ e, turn_list a _, ⟨_, Heap.get?_push_size _ rfl, rfl, rfl⟩, fp, q⟩
  · subst e
    cases r1
    obtain ⟨its, rv, p, hz⟩ := I1.tuple hq
    exact wpAny_pyIter_tuple (show s1.heap.IsTuple a its.toArray from p) ⟨_, _, _, _, H1, rfl, I1.kept (t' := s1.toks) fun b o e => Heap.get?_push_of_some _ e, turn_tuple a _, ⟨_, Heap.get?_push_size _ rfl, rfl, rfl⟩, fp, q⟩
  · subst e
    obtain ⟨t, rfl⟩ := r1
    cases ha : z.cps.all (· < 128)
    · exact wpAny_pyIter_wide ha (pi_one (tk := s1.toks) I1 _ (turn_str _ z t "str_iterator" (.inr rfl)) ⟨_, Heap.get?_push_size _ rfl, rfl, rfl⟩ q)
    · exact wpAny_pyIter_ascii ha (pi_one (tk := s1.toks) I1 _ (turn_str _ z t "str_ascii_iterator" (.inl rfl)) ⟨_, Heap.get?_push_size _ rfl, rfl, rfl⟩ q)
  · subst e
    cases r1
    obtain ⟨g1, _⟩ := I1.hok a _ hd
    exact wpAny_pyIter_dict_raw hs g1 (pi_one (tk := s1.toks) I1 _ (turn_kx _) ⟨_, Heap.get?_push_size _ rfl, rfl, rfl⟩ q)
/-- the items of a value, and what must not change while they are walked -/
def itemsD (S : Sto) : D → Option (List D × (Sto → Prop))
  | .tup ds => some (ds, fun _ => True)
  | .fls ds => some (ds, fun _ => True)
  | .str x => some (signsD x, fun _ => True)
  | .loc l => match S[l]? with
    | some (.lst xs) => some (xs, fun S' => S'[l]? = some (.lst xs))
    | some (.dct ep kvs) => some (kvs.map (·.1), fun S' => S'[l]? = some (.dct ep kvs))
    | _ => none
  | _ => none
def wiAny (we : WE) : WI := fun τ S R => we τ S fun d S1 => ∃ p, itemsD S1 d = some p ∧ R p.1 p.2 S1
theorem di_any {tg l : Expr} {we : WE} (hl : PE X l (dE X we)) : PI X tg l (dI X (wiAny we)) := by
  refine PI.imp (pi_any hl) fun σ H R ⟨ρ, τ, S, Rd, W, er, h, p⟩ => ⟨ρ, τ, S, _, W, er, h, fun d S1 ⟨pr, e, h1⟩ ρ1 H1 v x1 W1 r => ?_⟩
  have fin := fun J => p pr.1 pr.2 S1 h1 ρ1 H1 J x1 W1
  cases d with
  | tup ds =>
    obtain ⟨a, vs, rfl, h2, h3⟩ := r.tup_of
    have e' : some (ds, fun _ => True) = some pr := e
    cases e'
    exact .inr (.inl ⟨a, rfl, ⟨vs, h2.sq⟩, fin _ (jr_tup (tupHas W1 h2 h3))⟩)
  | fls ds =>
    obtain ⟨a, vs, rfl, h2, h3⟩ := r.fls_of
    have e' : some (ds, fun _ => True) = some pr := e
    cases e'
    exact .inl ⟨a, rfl, ⟨vs, h2.sq⟩, fin _ (jr_list (lstHas_fls W1 h2 h3))⟩
  | str x =>
    cases r.str_of
    have e' : some (signsD x, fun _ => True) = some pr := e
    cases e'
    exact .inr (.inr (.inl ⟨x, rfl, fin _ (jr_str x)⟩))
  | loc l =>
    obtain ⟨a, h2, rfl⟩ := r.loc_of
    simp only [itemsD] at e
    split at e
    · rename_i xs h3
      cases e
      obtain ⟨vs, h4, h5⟩ := W1.obj l a _ h2 h3
      exact .inl ⟨a, rfl, ⟨vs, SqL.of h4⟩, fin _ (jr_list (lstHas_loc h2))⟩
    · rename_i ep kvs h3
      cases e
      obtain ⟨h4, h5, h6, es, h7, h8⟩ := W1.obj l a _ h2 h3
      exact .inr (.inr (.inr ⟨a, es, ep, rfl, h4, h7, fin _ (jr_dict h2 ((Paired.length h8).trans Array.length_toList) fun ρ' H' p e hp => by
        obtain ⟨k, kv, dv, g1, g2, g3, g4, g5, _⟩ := hp
        exact ⟨kv, g4, g5⟩)⟩))
    · cases e
  | non => cases e
  | bl _ => cases e
  | int _ => cases e

/-! ### range -/
def rangeD (lo : Int) (n : Nat) : List D := (List.range n).map fun i : Nat => D.int (lo + (i : Int))
theorem jr_range {ρ : List Addr} {H : Hp} (lo : Int) (n : Nat) : JR X (Itr lo n) ρ H (rangeD lo n) (fun _ => True) where
  go := fun i d ρ' S' H' xx W' hc hd => by
    unfold rangeD at hd
    rw [List.getElem?_map] at hd
    by_cases hl : i < n
    · rw [List.getElem?_range hl] at hd
      cases hd
      refine ⟨hl, fun y H2 ⟨e1, e2⟩ => ?_⟩
      subst e1
      rw [e2]
      exact ⟨Ext.refl _ _, W', .int⟩
    · rw [List.getElem?_eq_none (by simp; omega)] at hd
      cases hd
  stop := fun i ρ' S' H' xx W' hc hi => by
    have : n ≤ i := by
      unfold rangeD at hi
      simpa using hi
    exact this
def wiRange1 (wr : WA) : WI := fun τ S R => wr τ S fun ds S1 => ∃ j : Int, ds = [.int j] ∧ -(2 ^ 62) ≤ j ∧ j < 2 ^ 62 ∧ R (rangeD 0 j.toNat) (fun _ => True) S1
def wiRange2 (wr : WA) : WI := fun τ S R => wr τ S fun ds S1 => ∃ i j : Int, ds = [.int i, .int j] ∧ (-(2 ^ 62) ≤ i ∧ i < 2 ^ 62 ∧ -(2 ^ 62) ≤ j ∧ j < 2 ^ 62) ∧ R (rangeD i (j - i).toNat) (fun _ => True) S1
theorem VRs.one_of {K : PySem.W.Frag} {ρ : List Addr} {H : Hp} {d : D} {vs : List V} (h : VRs K ρ H [d] vs) : ∃ v, vs = [v] ∧ VR K ρ H d v := by
  unfold VRs at h
  obtain ⟨v, vr, rfl, h1, h2⟩ := h
  unfold VRs at h2
  subst h2
  exact ⟨v, rfl, h1⟩
theorem VRs.two_of {K : PySem.W.Frag} {ρ : List Addr} {H : Hp} {d c : D} {vs : List V} (h : VRs K ρ H [d, c] vs) : ∃ v u, vs = [v, u] ∧ VR K ρ H d v ∧ VR K ρ H c u := by
  unfold VRs at h
  obtain ⟨v, vr, rfl, h1, h2⟩ := h
  obtain ⟨u, rfl, h3⟩ := h2.one_of
  exact ⟨v, u, rfl, h1, h3⟩
theorem VRs.three_of {K : PySem.W.Frag} {ρ : List Addr} {H : Hp} {d c b : D} {vs : List V} (h : VRs K ρ H [d, c, b] vs) : ∃ v u t, vs = [v, u, t] ∧ VR K ρ H d v ∧ VR K ρ H c u ∧ VR K ρ H b t := by
  unfold VRs at h
  obtain ⟨v, vr, rfl, h1, h2⟩ := h
  obtain ⟨u, t, rfl, h3, h4⟩ := h2.two_of
  exact ⟨v, u, t, rfl, h1, h3, h4⟩
theorem di_range1 {tg a : Expr} {wr : WA} {p pos : Pos} (hm : X.mg "range" = none) (hg : Gl X "range") (ha : PA X [a] (dA X wr)) (hs : starEach [a] X.env = [(false, eval a X.env)] := by rfl) : PI X tg (.Call (.Name "range" p) [a] [] pos) (dI X (wiRange1 wr)) :=
  PI.imp (pi_range1 hg hm ha hs) fun σ H R ⟨ρ, τ, S, Rd, W, er, h, p⟩ => ⟨ρ, τ, S, _, W, er, h, fun ds S1 ⟨j, e, b1, b2, h1⟩ ρ1 H1 vs x1 W1 r => by
    subst e
    obtain ⟨v, rfl, r1⟩ := r.one_of
    cases r1.int_of
    exact ⟨j, rfl, b1, b2, p _ _ S1 h1 ρ1 H1 _ x1 W1 (jr_range 0 _)⟩⟩
theorem di_range2 {tg a b : Expr} {wr : WA} {p pos : Pos} (hm : X.mg "range" = none) (hg : Gl X "range") (ha : PA X [a, b] (dA X wr)) (hs : starEach [a, b] X.env = [(false, eval a X.env), (false, eval b X.env)] := by rfl) (hs2 : starEach [b] X.env = [(false, eval b X.env)] := by rfl) :
    PI X tg (.Call (.Name "range" p) [a, b] [] pos) (dI X (wiRange2 wr)) :=
  PI.imp (pi_range2 hg hm ha hs hs2) fun σ H R ⟨ρ, τ, S, Rd, W, er, h, p⟩ => ⟨ρ, τ, S, _, W, er, h, fun ds S1 ⟨i, j, e, b1, h1⟩ ρ1 H1 vs x1 W1 r => by
    subst e
    obtain ⟨v, u, rfl, r1, r2⟩ := r.two_of
    cases r1.int_of
    cases r2.int_of
    exact ⟨i, j, rfl, b1, p _ _ S1 h1 ρ1 H1 _ x1 W1 (jr_range i _)⟩⟩

/-! ### zip -/
def zipD (xs ys : List D) : List D := (xs.zip ys).map fun p => D.tup [p.1, p.2]
theorem zip_get {xs ys : List D} {i : Nat} {d : D} (h : (zipD xs ys)[i]? = some d) : ∃ x y, xs[i]? = some x ∧ ys[i]? = some y ∧ d = .tup [x, y] := by
  unfold zipD at h
  rw [List.getElem?_map] at h
  cases e : (xs.zip ys)[i]? with
  | none =>
    rw [e] at h
    cases h
  | some p =>
    rw [e] at h
    cases h
    obtain ⟨h1, h2⟩ := List.getElem?_zip_eq_some.mp e
    exact ⟨_, _, h1, h2, rfl⟩
theorem jr_zip {ρ : List Addr} {H : Hp} {a b : Addr} {xs ys : List D} {ck1 ck2 : Sto → Prop} (h1 : LstHas X ρ H a xs ck1) (h2 : LstHas X ρ H b ys ck2) : JR X (Itz X.K a b) ρ H (zipD xs ys) (fun S => ck1 S ∧ ck2 S) where
  go := fun i d ρ' S' H' x W' hc hd => by
    obtain ⟨d1, d2, g1, g2, rfl⟩ := zip_get hd
    obtain ⟨vs, q1, r1⟩ := h1 ρ' S' H' x W' hc.1
    obtain ⟨us, q2, r2⟩ := h2 ρ' S' H' x W' hc.2
    obtain ⟨v, e1, k1⟩ := r1.get g1
    obtain ⟨u, e2, k2⟩ := r2.get g2
    refine ⟨⟨vs, us, v, u, q1, q2, e1, e2⟩, fun y H2 ⟨T, x', y', e, hT, hH, p1, p2⟩ => ?_⟩
    have e3 := p1 vs q1
    have e4 := p2 us q2
    rw [e1] at e3
    rw [e2] at e4
    cases e3
    cases e4
    subst e hH
    exact ⟨ext_new hT, W'.laid hT, .tup (.inl upd_same) (.cons (k1.ext W'.sep (ext_new hT)) (.cons (k2.ext W'.sep (ext_new hT)) .nil))⟩
  stop := fun i ρ' S' H' x W' hc hi => by
    obtain ⟨vs, q1, r1⟩ := h1 ρ' S' H' x W' hc.1
    obtain ⟨us, q2, r2⟩ := h2 ρ' S' H' x W' hc.2
    refine ⟨vs, us, q1, q2, ?_⟩
    rw [r1.length, r2.length]
    unfold zipD at hi
    rw [List.length_map, List.length_zip] at hi
    omega
theorem jr_zipT {ρ : List Addr} {H : Hp} {a b : Addr} {xs ys : List D} (h1 : TupHas X ρ H a xs) (h2 : TupHas X ρ H b ys) : JR X (ItzT X.K a b) ρ H (zipD xs ys) (fun S => True ∧ True) where
  go := fun i d ρ' S' H' x W' hc hd => by
    obtain ⟨d1, d2, g1, g2, rfl⟩ := zip_get hd
    obtain ⟨vs, q1, r1⟩ := h1 ρ' S' H' x W'
    obtain ⟨us, q2, r2⟩ := h2 ρ' S' H' x W'
    obtain ⟨v, e1, k1⟩ := r1.get g1
    obtain ⟨u, e2, k2⟩ := r2.get g2
    refine ⟨⟨vs, us, v, u, q1, q2, e1, e2⟩, fun y H2 ⟨T, x', y', e, hT, hH, p1, p2⟩ => ?_⟩
    have e3 := p1 vs q1
    have e4 := p2 us q2
    rw [e1] at e3
    rw [e2] at e4
    cases e3
    cases e4
    subst e hH
    exact ⟨ext_new hT, W'.laid hT, .tup (.inl upd_same) (.cons (k1.ext W'.sep (ext_new hT)) (.cons (k2.ext W'.sep (ext_new hT)) .nil))⟩
  stop := fun i ρ' S' H' x W' hc hi => by
    obtain ⟨vs, q1, r1⟩ := h1 ρ' S' H' x W'
    obtain ⟨us, q2, r2⟩ := h2 ρ' S' H' x W'
    refine ⟨vs, us, q1, q2, ?_⟩
    rw [r1.length, r2.length]
    unfold zipD at hi
    rw [List.length_map, List.length_zip] at hi
    omega
/-- a list's items (not a tuple's) -/
def lstD (S : Sto) : D → Option (List D × (Sto → Prop))
  | .fls ds => some (ds, fun _ => True)
  | .loc l => match S[l]? with
    | some (.lst xs) => some (xs, fun S' => S'[l]? = some (.lst xs))
    | _ => none
  | _ => none
theorem lstD_ok {ρ : List Addr} {S : Sto} {H : Hp} {d : D} {v : V} {p : List D × (Sto → Prop)} (W : XW X ρ S H) (r : VR X.K ρ H d v) (e : lstD S d = some p) : ∃ a vs, v = .ref a ∧ SqL X.K H a vs ∧ VRs X.K ρ H p.1 vs ∧ LstHas X ρ H a p.1 p.2 := by
  cases d with
  | fls ds =>
    obtain ⟨a, vs, rfl, h2, h3⟩ := r.fls_of
    have e' : some (ds, fun _ => True) = some p := e
    cases e'
    exact ⟨a, vs, rfl, h2.sq, h3, lstHas_fls W h2 h3⟩
  | loc l =>
    obtain ⟨a, h2, rfl⟩ := r.loc_of
    simp only [lstD] at e
    split at e
    · rename_i xs h3
      cases e
      obtain ⟨vs, h4, h5⟩ := W.obj l a _ h2 h3
      exact ⟨a, vs, rfl, SqL.of h4, h5, lstHas_loc h2⟩
    · cases e
  | tup _ => cases e
  | str _ => cases e
  | non => cases e
  | bl _ => cases e
  | int _ => cases e
def wiZip (wr : WA) : WI := fun τ S R => wr τ S fun ds S1 => ∃ d1 d2, ds = [d1, d2] ∧ ((∃ xs ys, d1 = .tup xs ∧ d2 = .tup ys ∧ R (zipD xs ys) (fun S => True ∧ True) S1) ∨
  ∃ p q, lstD S1 d1 = some p ∧ lstD S1 d2 = some q ∧ R (zipD p.1 q.1) (fun S => p.2 S ∧ q.2 S) S1)
theorem di_zip {e e2 : Expr} {wr : WA} {p pos tpos : Pos} {elts : List Expr} {kk : Nat} (hm : X.mg "zip" = none) (hg : Gl X "zip") (ha : PA X [e, e2] (dA X wr))
    (hs : starEach [e, e2] X.env = (false, eval e X.env) :: starEach [e2] X.env := by rfl) (hpl : (backTo pos (starEach [e2] X.env)).any (·.1) = false := by rfl) :
    PI X (.Tuple elts kk tpos) (.Call (.Name "zip" p) [e, e2] [] pos) (dI X (wiZip wr)) :=
  PI.imp (pi_zipA hg hm ha hs hpl) fun σ H R ⟨ρ, τ, S, Rd, W, er, h, p⟩ => ⟨ρ, τ, S, _, W, er, h, fun ds S1 ⟨d1, d2, e1, h1⟩ ρ1 H1 vs x1 W1 r => by
    subst e1
    obtain ⟨v, u, rfl, r1, r2⟩ := r.two_of
    rcases h1 with ⟨xs, ys, rfl, rfl, h1⟩ | ⟨p1, p2, e1, e2, h1⟩
    · obtain ⟨a, vs, rfl, h2, h3⟩ := r1.tup_of
      obtain ⟨b, us, rfl, h4, h5⟩ := r2.tup_of
      exact ⟨a, b, vs, us, rfl, .inr ⟨h2.sq, h4.sq, p _ _ S1 h1 ρ1 H1 _ x1 W1 (jr_zipT (tupHas W1 h2 h3) (tupHas W1 h4 h5))⟩⟩
    · obtain ⟨a, vs, rfl, h2, h3, l1⟩ := lstD_ok W1 r1 e1
      obtain ⟨b, us, rfl, h4, h5, l2⟩ := lstD_ok W1 r2 e2
      exact ⟨a, b, vs, us, rfl, .inl ⟨h2, h4, p _ _ S1 h1 ρ1 H1 _ x1 W1 (jr_zip l1 l2)⟩⟩⟩

/-! ### enumerate of a list -/
def enumD (xs : List D) : List D := xs.zipIdx.map fun p => D.tup [.int (p.2 : Nat), p.1]
theorem enum_get {xs : List D} {i : Nat} {d : D} (h : (enumD xs)[i]? = some d) : ∃ x, xs[i]? = some x ∧ d = .tup [.int (i : Nat), x] := by
  unfold enumD at h
  rw [List.getElem?_map, List.getElem?_zipIdx] at h
  cases e : xs[i]? with
  | none =>
    rw [e] at h
    cases h
  | some x =>
    rw [e] at h
    simp at h
    exact ⟨x, rfl, h.symm⟩
theorem jr_enum {ρ : List Addr} {H : Hp} {a : Addr} {xs : List D} {chk : Sto → Prop} (h : LstHas X ρ H a xs chk) : JR X (Ite X.K a) ρ H (enumD xs) chk where
  go := fun i d ρ' S' H' x W' hc hd => by
    obtain ⟨d1, g1, rfl⟩ := enum_get hd
    obtain ⟨vs, q1, r1⟩ := h ρ' S' H' x W' hc
    obtain ⟨v, e1, k1⟩ := r1.get g1
    refine ⟨⟨vs, v, q1, e1⟩, fun y H2 ⟨T, x', e, hT, hH, p1⟩ => ?_⟩
    have e3 := p1 vs q1
    rw [e1] at e3
    cases e3
    subst e hH
    exact ⟨ext_new hT, W'.laid hT, .tup (.inl upd_same) (.cons .int (.cons (k1.ext W'.sep (ext_new hT)) .nil))⟩
  stop := fun i ρ' S' H' x W' hc hi => by
    obtain ⟨vs, h1, h2⟩ := h ρ' S' H' x W' hc
    refine ⟨vs, h1, ?_⟩
    rw [h2.length]
    unfold enumD at hi
    simpa using hi
def wiEnum (wr : WA) : WI := fun τ S R => wr τ S fun ds S1 => ∃ d p, ds = [d] ∧ lstD S1 d = some p ∧ R (enumD p.1) p.2 S1
theorem di_enum {e : Expr} {wr : WA} {p pos tpos : Pos} {elts : List Expr} {kk : Nat} (hm : X.mg "enumerate" = none) (hg : Gl X "enumerate") (ha : PA X [e] (dA X wr)) (hs : starEach [e] X.env = [(false, eval e X.env)] := by rfl) :
    PI X (.Tuple elts kk tpos) (.Call (.Name "enumerate" p) [e] [] pos) (dI X (wiEnum wr)) :=
  PI.imp (pi_enum hg hm ha hs) fun σ H R ⟨ρ, τ, S, Rd, W, er, h, p⟩ => ⟨ρ, τ, S, _, W, er, h, fun ds S1 ⟨d, pr, e1, e2, h1⟩ ρ1 H1 vs x1 W1 r => by
    subst e1
    obtain ⟨v, rfl, r1⟩ := r.one_of
    obtain ⟨a, vs, rfl, h2, h3, l1⟩ := lstD_ok W1 r1 e2
    exact ⟨a, vs, rfl, h2, p _ _ S1 h1 ρ1 H1 _ x1 W1 (jr_enum l1)⟩⟩
end
end Dl

namespace Dl
open PySem L2

/-! ## the operators by values -/
/-- a rule of two ints -/
theorem opD_int {X : Cx} {f : Value → Value → Sem Value} {C : Int → Int → Prop} {g : Int → Int → V} {G : Int → Int → D} (h : OpR X f (rI C g)) (hg : ∀ ρ H i j, VR X.K ρ H (G i j) (g i j)) :
    OpR X f (rD X fun d1 d2 S R => ∃ i j, d1 = .int i ∧ d2 = .int j ∧ C i j ∧ R (G i j) S) :=
  OpR.imp h fun x y H Q ⟨ρ, S, d1, d2, R, W, r1, r2, ⟨i, j, e1, e2, c, q⟩, p⟩ => by
    subst e1 e2
    exact ⟨i, j, r1.int_of, r2.int_of, c, p _ _ q ρ H _ (Ext.refl _ _) W (hg _ _ _ _)⟩
theorem opD_int0 {X : Cx} {f : Value → Value → Sem Value} {g : Int → Int → V} {G : Int → Int → D} (h : OpR X f (rI0 g)) (hg : ∀ ρ H i j, VR X.K ρ H (G i j) (g i j)) :
    OpR X f (rD X fun d1 d2 S R => ∃ i j, d1 = .int i ∧ d2 = .int j ∧ R (G i j) S) :=
  OpR.imp h fun x y H Q ⟨ρ, S, d1, d2, R, W, r1, r2, ⟨i, j, e1, e2, q⟩, p⟩ => by
    subst e1 e2
    exact ⟨i, j, r1.int_of, r2.int_of, p _ _ q ρ H _ (Ext.refl _ _) W (hg _ _ _ _)⟩
def dAddI : DOp := fun d1 d2 S R => ∃ i j, d1 = .int i ∧ d2 = .int j ∧ R (.int (i + j)) S
def dSub : DOp := fun d1 d2 S R => ∃ i j, d1 = .int i ∧ d2 = .int j ∧ R (.int (i - j)) S
def dMulI : DOp := fun d1 d2 S R => ∃ i j, d1 = .int i ∧ d2 = .int j ∧ CMulW i j ∧ R (.int (i * j)) S
def dMod : DOp := fun d1 d2 S R => ∃ i j, d1 = .int i ∧ d2 = .int j ∧ j ≠ 0 ∧ R (.int (i.fmod j)) S
def dDiv : DOp := fun d1 d2 S R => ∃ i j, d1 = .int i ∧ d2 = .int j ∧ CDivW i j ∧ R (.int (i / j)) S
def dPow : DOp := fun d1 d2 S R => ∃ i j, d1 = .int i ∧ d2 = .int j ∧ CPow i j ∧ R (.int (i ^ j.toNat)) S
def dLtI : DOp := fun d1 d2 S R => ∃ i j, d1 = .int i ∧ d2 = .int j ∧ R (.bl (decide (i < j))) S
def dLe : DOp := fun d1 d2 S R => ∃ i j, d1 = .int i ∧ d2 = .int j ∧ R (.bl (decide (i ≤ j))) S
def dGt : DOp := fun d1 d2 S R => ∃ i j, d1 = .int i ∧ d2 = .int j ∧ R (.bl (decide (j < i))) S
def dGe : DOp := fun d1 d2 S R => ∃ i j, d1 = .int i ∧ d2 = .int j ∧ R (.bl (decide (j ≤ i))) S
section
variable {X : Cx}
theorem od_addI : OpR X (binaryOp .Add) (rD X dAddI) := opD_int0 op_add fun _ _ _ _ => .int
theorem od_sub : OpR X (binaryOp .Sub) (rD X dSub) := opD_int0 op_sub fun _ _ _ _ => .int
theorem od_mulI : OpR X (binaryOp .Mult) (rD X dMulI) := opD_int op_mulW fun _ _ _ _ => .int
theorem od_mod : OpR X (binaryOp .Mod) (rD X dMod) := opD_int op_modN fun _ _ _ _ => .int
theorem od_div : OpR X (binaryOp .FloorDiv) (rD X dDiv) := opD_int op_fdivW fun _ _ _ _ => .int
theorem od_pow : OpR X (binaryOp .Pow) (rD X dPow) := opD_int op_pow fun _ _ _ _ => .int
theorem od_ltI : OpR X (compareOp .Lt) (rD X dLtI) := opD_int0 op_lt fun _ _ _ _ => .bl
theorem od_le : OpR X (compareOp .LtE) (rD X dLe) := opD_int0 op_le fun _ _ _ _ => .bl
theorem od_gt : OpR X (compareOp .Gt) (rD X dGt) := opD_int0 op_gt fun _ _ _ _ => .bl
theorem od_ge : OpR X (compareOp .GtE) (rD X dGe) := opD_int0 op_ge fun _ _ _ _ => .bl

/-! ### + of texts, tuples, lists -/
def dAddS : DOp := fun d1 d2 S R => ∃ x y, d1 = .str x ∧ d2 = .str y ∧ x.length + y.length ≤ sizeLine ∧ R (.str (x ++ y)) S
def dAddT : DOp := fun d1 d2 S R => ∃ xs ys, d1 = .tup xs ∧ d2 = .tup ys ∧ xs.length + ys.length ≤ sizeLine ∧ R (.tup (xs ++ ys)) S
def dAddL : DOp := fun d1 d2 S R => ∃ l m xs ys, d1 = .loc l ∧ d2 = .loc m ∧ S[l]? = some (.lst xs) ∧ S[m]? = some (.lst ys) ∧ xs.length + ys.length ≤ sizeLine ∧ R (.loc S.length) (S ++ [.lst (xs ++ ys)])
theorem od_addS : OpR X (binaryOp .Add) (rD X dAddS) := OpR.imp op_add_str fun x y H Q ⟨ρ, S, d1, d2, R, W, r1, r2, ⟨i, j, e1, e2, hz, q⟩, p⟩ => by
  subst e1 e2
  exact ⟨i, j, r1.str_of, r2.str_of, hz, p _ _ q ρ H _ (Ext.refl _ _) W .str⟩
theorem VRs.nil_of {K : PySem.W.Frag} {ρ : List Addr} {H : Hp} {vs : List V} (h : VRs K ρ H [] vs) : vs = [] := by unfold VRs at h; exact h
theorem VRs.of_nil {K : PySem.W.Frag} {ρ : List Addr} {H : Hp} {ds : List D} (h : VRs K ρ H ds []) : ds = [] := by
  have := h.length
  simpa using this.symm
theorem od_addT : OpR X (binaryOp .Add) (rD X dAddT) := OpR.imp op_catA fun x y H Q ⟨ρ, S, d1, d2, R, W, r1, r2, ⟨xs, ys, e1, e2, hz, q⟩, p⟩ => by
  subst e1 e2
  obtain ⟨a, vs, rfl, h1, h2⟩ := r1.tup_of
  obtain ⟨b, us, rfl, h3, h4⟩ := r2.tup_of
  refine ⟨a, b, vs, us, rfl, rfl, h1.sq, h3.sq, by rw [h2.length, h4.length]; exact hz, fun e => ?_, fun n e => ?_, fun n n2 c hc => ?_⟩
  · subst e
    have e2 := h2.of_nil
    subst e2
    exact p _ _ q ρ H _ (Ext.refl _ _) W (.tup h3 h4)
  · subst e
    have e2 := h4.of_nil
    subst e2
    rw [List.append_nil] at q
    exact p _ _ q ρ H _ (Ext.refl _ _) W (.tup h1 h2)
  · exact new_tup W (h2.append h4) q p hc
theorem od_addL : OpR X (binaryOp .Add) (rD X dAddL) := OpR.imp op_cat fun x y H Q ⟨ρ, S, d1, d2, R, W, r1, r2, ⟨l, m, xs, ys, e1, e2, g1, g2, hz, q⟩, p⟩ => by
  subst e1 e2
  obtain ⟨a, h1, rfl⟩ := r1.loc_of
  obtain ⟨b, h2, rfl⟩ := r2.loc_of
  obtain ⟨vs, h3, h4⟩ := W.obj l a _ h1 g1
  obtain ⟨us, h5, h6⟩ := W.obj m b _ h2 g2
  exact ⟨a, b, vs, us, rfl, rfl, h3, h5, by rw [h4.length, h6.length]; exact hz, fun c hc => new_lst W (h4.append h6) q p hc⟩
def dAdd : DOp := opOr dAddI (opOr dAddS (opOr dAddT dAddL))
theorem od_add : OpR X (binaryOp .Add) (rD X dAdd) := OpD.or od_addI (OpD.or od_addS (OpD.or od_addT od_addL))
def dMulL : DOp := fun d1 d2 S R => ∃ l xs k, d1 = .loc l ∧ d2 = .int k ∧ S[l]? = some (.lst xs) ∧ -(2 ^ 63) ≤ k ∧ k < 2 ^ 63 ∧ xs.length * k.toNat ≤ sizeLine ∧ R (.loc S.length) (S ++ [.lst (List.replicate k.toNat xs).flatten])
theorem VRs.rep {K : PySem.W.Frag} {ρ : List Addr} {H : Hp} {ds : List D} {vs : List V} (h : VRs K ρ H ds vs) : ∀ k : Nat, VRs K ρ H (List.replicate k ds).flatten (List.replicate k vs).flatten
  | 0 => .nil
  | k + 1 => by
    rw [List.replicate_succ, List.replicate_succ, List.flatten_cons, List.flatten_cons]
    exact h.append (h.rep k)
theorem od_mulL : OpR X (binaryOp .Mult) (rD X dMulL) := OpR.imp op_rep fun x y H Q ⟨ρ, S, d1, d2, R, W, r1, r2, ⟨l, xs, k, e1, e2, g1, b1, b2, hz, q⟩, p⟩ => by
  subst e1 e2
  obtain ⟨a, h1, rfl⟩ := r1.loc_of
  obtain ⟨vs, h3, h4⟩ := W.obj l a _ h1 g1
  exact ⟨a, k, vs, rfl, r2.int_of, h3, b1, b2, by rw [h4.length]; exact hz, fun c hc => new_lst W (h4.rep _) q p hc⟩

/-! ### == and != -/
/-- a value's key is what it is by == -/
theorem nested_of {pins : List (Addr × Obj)} {σ : St} {H : Hp} {s : Shared} {ρ : List Addr} (I : L2.Inv X pins σ H s) : ∀ (d : D) (k : NestedKey) (v : V) (u : Value), keyOf d = some k → VR X.K ρ H d v → RelV v u → NestedIs s.heap k u
  | .non, k, v, u, e, h, r => by
    cases h.non_of
    cases (show u = Value.none from r)
    have e' : some NestedKey.none = some k := e
    cases e'
    exact .none
  | .bl b, k, v, u, e, h, r => by
    cases h.bl_of
    cases (show u = Value.bool b from r)
    have e' : some (NestedKey.num (if b then 1 else 0)) = some k := e
    cases e'
    exact .bool rfl
  | .int i, k, v, u, e, h, r => by
    cases h.int_of
    obtain ⟨t, rfl⟩ := (show ∃ t, u = Value.int i t from r)
    have e' : some (NestedKey.num i) = some k := e
    cases e'
    exact .int _ _
  | .str x, k, v, u, e, h, r => by
    cases h.str_of
    obtain ⟨t, rfl⟩ := (show ∃ t, u = Value.str x t from r)
    have e' : some (NestedKey.text x) = some k := e
    cases e'
    exact .text _ _
  | .tup ds, k, v, u, e, h, r => by
    obtain ⟨a, vs, rfl, h1, h2⟩ := h.tup_of
    cases (show u = Value.ref a from r)
    have e' : (keyOf.keysOf ds).map NestedKey.tup = some k := e
    cases e2 : keyOf.keysOf ds with
    | none =>
      rw [e2] at e'
      cases e'
    | some ks =>
      rw [e2] at e'
      cases e'
      obtain ⟨its, rv, ⟨o, ho, hc, n, hd⟩, _⟩ := I.tuple h1.sq
      exact .tup ho hc hd (by simpa using go ds ks vs its e2 h2 rv)
  | .fls _, _, _, _, e, _, _ => by cases e
  | .loc _, _, _, _, e, _, _ => by cases e
where go : ∀ (ds : List D) (ks : List NestedKey) (vs : List V) (us : List Value), keyOf.keysOf ds = some ks → VRs X.K ρ H ds vs → Vals vs us → NestedAll s.heap ks us
  | [], ks, vs, us, e, h, r => by
    cases h.nil_of
    cases r
    have e' : some [] = some ks := e
    cases e'
    exact .nil
  | d :: ds, ks, vs, us, e, h, r => by
    unfold VRs at h
    obtain ⟨v, vr, rfl, h1, h2⟩ := h
    cases r with
    | cons r1 r2 =>
      unfold keyOf.keysOf at e
      cases e1 : keyOf d with
      | none =>
        rw [e1] at e
        cases e
      | some k =>
        cases e2 : keyOf.keysOf ds with
        | none =>
          rw [e1, e2] at e
          cases e
        | some ks' =>
          rw [e1, e2] at e
          cases e
          exact .cons (nested_of I d k v _ e1 h1 r1) (go ds ks' vr _ e2 h2 r2)
end
/-- == and != of keys at the top -/
theorem rcAt_key {A : Around} {s : Shared} : ∀ (x y : NestedKey) (a b : Value), NestedIs s.heap x a → NestedIs s.heap y b → A.units + min x.depth y.depth + 1 < cLine → SeqAt.RcAt A s a b (NestedKey.beq x y) ∧ SeqAt.RcNeAt A s a b (!NestedKey.beq x y)
  | .none, _, _, _, ra, rb, hu => by
    cases ra
    cases rb with
    | none => exact ⟨SeqAt.RcAt.none_none, SeqAt.RcNeAt.none_none⟩
    | bool e => exact ⟨SeqAt.RcAt.none_bool _, SeqAt.RcNeAt.none_bool _⟩
    | int y u => exact ⟨SeqAt.RcAt.none_int _ _, SeqAt.RcNeAt.none_int _ _⟩
    | text y u => exact ⟨SeqAt.RcAt.none_str _ _, SeqAt.RcNeAt.none_str _ _⟩
    | tup k1 k2 k3 k4 => exact ⟨SeqAt.RcAt.none_tuple ⟨_, k1, k2, _, k3⟩ (by omega), SeqAt.RcNeAt.none_tuple ⟨_, k1, k2, _, k3⟩ (by omega)⟩
  | .num i, _, _, _, ra, rb, hu => by
    cases ra with
    | int _ t =>
      cases rb with
      | none => exact ⟨SeqAt.RcAt.int_none _ _, SeqAt.RcNeAt.int_none _ _⟩
      | bool e => subst e; exact ⟨SeqAt.RcAt.int_bool _ _ _, SeqAt.RcNeAt.int_bool _ _ _⟩
      | int y u => exact ⟨SeqAt.RcAt.int_int _ _ _ _, SeqAt.RcNeAt.int_int _ _ _ _⟩
      | text y u => exact ⟨SeqAt.RcAt.int_str _ _ _ _, SeqAt.RcNeAt.int_str _ _ _ _⟩
      | tup k1 k2 k3 k4 => exact ⟨SeqAt.RcAt.int_tuple _ _ ⟨_, k1, k2, _, k3⟩ (by omega), SeqAt.RcNeAt.int_tuple _ _ ⟨_, k1, k2, _, k3⟩ (by omega)⟩
    | @bool c _ e =>
      cases rb with
      | none => exact ⟨SeqAt.RcAt.bool_none _, SeqAt.RcNeAt.bool_none _⟩
      | @bool d i2 e' =>
        have h : NestedKey.beq (.num i) (.num i2) = (c == d) := by
          subst e e'
          cases c <;> cases d <;> rfl
        rw [h]
        exact ⟨SeqAt.RcAt.bool_bool _ _, SeqAt.RcNeAt.bool_bool _ _⟩
      | int y u => subst e; exact ⟨SeqAt.RcAt.bool_int _ _ _, SeqAt.RcNeAt.bool_int _ _ _⟩
      | text y u => exact ⟨SeqAt.RcAt.bool_str _ _ _, SeqAt.RcNeAt.bool_str _ _ _⟩
      | tup k1 k2 k3 k4 => exact ⟨SeqAt.RcAt.bool_tuple _ ⟨_, k1, k2, _, k3⟩ (by omega), SeqAt.RcNeAt.bool_tuple _ ⟨_, k1, k2, _, k3⟩ (by omega)⟩
  | .text x, _, _, _, ra, rb, hu => by
    cases ra with
    | text _ t =>
      cases rb with
      | none => exact ⟨SeqAt.RcAt.str_none _ _, SeqAt.RcNeAt.str_none _ _⟩
      | bool e => exact ⟨SeqAt.RcAt.str_bool _ _ _, SeqAt.RcNeAt.str_bool _ _ _⟩
      | int y u => exact ⟨SeqAt.RcAt.str_int _ _ _ _, SeqAt.RcNeAt.str_int _ _ _ _⟩
      | text y u => exact ⟨SeqAt.RcAt.str_str _ _ _ _, SeqAt.RcNeAt.str_str _ _ _ _⟩
      | tup k1 k2 k3 k4 => exact ⟨SeqAt.RcAt.str_tuple _ _ ⟨_, k1, k2, _, k3⟩ (by omega), SeqAt.RcNeAt.str_tuple _ _ ⟨_, k1, k2, _, k3⟩ (by omega)⟩
  | .tup xs, _, _, _, ra, rb, hu => by
    cases ra with
    | @tup l o vs n _ h1 h2 h3 h4 =>
      have hl : s.heap.IsTuple l vs := ⟨_, h1, h2, _, h3⟩
      cases rb with
      | none => exact ⟨SeqAt.RcAt.tuple_none hl (by omega), SeqAt.RcNeAt.tuple_none hl (by omega)⟩
      | @bool d _ e => exact ⟨SeqAt.RcAt.tuple_bool d hl (by omega), SeqAt.RcNeAt.tuple_bool d hl (by omega)⟩
      | int y u => exact ⟨SeqAt.RcAt.tuple_int y u hl (by omega), SeqAt.RcNeAt.tuple_int y u hl (by omega)⟩
      | text y u => exact ⟨SeqAt.RcAt.tuple_str y u hl (by omega), SeqAt.RcNeAt.tuple_str y u hl (by omega)⟩
      | @tup l' o' vs' n' ys k1 k2 k3 k4 =>
        have hl' : s.heap.IsTuple l' vs' := ⟨_, k1, k2, _, k3⟩
        have n1 : vs.size = xs.length := by simpa using NestedAll.length _ _ h4
        have n2 : vs'.size = ys.length := by simpa using NestedAll.length _ _ k4
        have he : ∀ j (j1 : j < vs.size) (j2 : j < vs'.size), SeqAt.EqAt A.in1 s vs[j] vs'[j] (keyEqAt xs ys j) := fun j j1 j2 => by
          have hd : A.in1.units + min (NestedKey.depthAll xs) (NestedKey.depthAll ys) < cLine := by
            simp only [NestedKey.depth] at hu
            show A.units + 1 + _ < _
            omega
          have := eqAt_keys xs ys A.in1 s vs.toList vs'.toList h4 k4 hd j (by simpa using j1) (by simpa using j2)
          simpa using this
        have e : NestedKey.beq (.tup xs) (.tup ys) = ((List.range (min vs.size vs'.size)).all (keyEqAt xs ys) && vs.size == vs'.size) := by
          rw [n1, n2]
          exact (beqAll_eq xs ys).symm
        rw [e]
        exact ⟨SeqAt.RcAt.tuples hl hl' (by omega) he, SeqAt.RcNeAt.tuples hl hl' (by omega) he⟩
theorem beqAll_len : ∀ {xs ys : List NestedKey}, xs.length ≠ ys.length → NestedKey.beqAll xs ys = false
  | [], [], h => absurd rfl h
  | [], _ :: _, _ => rfl
  | _ :: _, [], _ => rfl
  | x :: xs, y :: ys, h => by
    unfold NestedKey.beqAll
    rw [beqAll_len (xs := xs) (ys := ys) (fun e => h (by simp [e])), Bool.and_false]
/-- two lists -/
theorem rcAt_lists {A : Around} {s : Shared} {l b : Addr} {us ws : Array Value} {xs ys : List NestedKey} (hl : s.heap.IsList l us) (hb : s.heap.IsList b ws) (h1 : NestedAll s.heap xs us.toList) (h2 : NestedAll s.heap ys ws.toList)
    (hu : A.units + min (NestedKey.depthAll xs) (NestedKey.depthAll ys) + 1 < cLine) : SeqAt.RcAt A s (.ref l) (.ref b) (NestedKey.beqAll xs ys) ∧ SeqAt.RcNeAt A s (.ref l) (.ref b) (!NestedKey.beqAll xs ys) := by
  have n1 : us.size = xs.length := by simpa using NestedAll.length _ _ h1
  have n2 : ws.size = ys.length := by simpa using NestedAll.length _ _ h2
  have he : ∀ j (j1 : j < us.size) (j2 : j < ws.size), SeqAt.EqAt A.in1 s us[j] ws[j] (keyEqAt xs ys j) := fun j j1 j2 => by
    have hd : A.in1.units + min (NestedKey.depthAll xs) (NestedKey.depthAll ys) < cLine := by
      show A.units + 1 + _ < _
      omega
    have := eqAt_keys xs ys A.in1 s us.toList ws.toList h1 h2 hd j (by simpa using j1) (by simpa using j2)
    simpa using this
  by_cases hz : us.size = ws.size
  · have e : NestedKey.beqAll xs ys = (List.range us.size).all (keyEqAt xs ys) := by
      have hxy : xs.length = ys.length := by omega
      have hm : min xs.length ys.length = us.size := by omega
      rw [← beqAll_eq xs ys, hm, hxy]
      simp
    rw [e]
    exact ⟨SeqAt.RcAt.lists hl hb hz (by omega) he, SeqAt.RcNeAt.lists hl hb hz (by omega) he⟩
  · have hz' : (us.size != ws.size) = true := by simpa using hz
    rw [beqAll_len (by omega)]
    exact ⟨SeqAt.RcAt.lists_lengths hl hb hz' (by omega), SeqAt.RcNeAt.lists_lengths hl hb hz' (by omega)⟩
/-- a list and what is none -/
theorem rcAt_mixed {A : Around} {s : Shared} {l : Addr} {us : Array Value} {y : NestedKey} {b : Value} (hl : s.heap.IsList l us) (hb : NestedIs s.heap y b) (hu : A.units + 1 < cLine) :
    (SeqAt.RcAt A s (.ref l) b false ∧ SeqAt.RcNeAt A s (.ref l) b true) ∧ (SeqAt.RcAt A s b (.ref l) false ∧ SeqAt.RcNeAt A s b (.ref l) true) := by
  cases hb with
  | none => exact ⟨⟨SeqAt.RcAt.list_none hl (by omega), SeqAt.RcNeAt.list_none hl (by omega)⟩, ⟨SeqAt.RcAt.none_list hl (by omega), SeqAt.RcNeAt.none_list hl (by omega)⟩⟩
  | bool e => exact ⟨⟨SeqAt.RcAt.list_bool _ hl (by omega), SeqAt.RcNeAt.list_bool _ hl (by omega)⟩, ⟨SeqAt.RcAt.bool_list _ hl (by omega), SeqAt.RcNeAt.bool_list _ hl (by omega)⟩⟩
  | int y u => exact ⟨⟨SeqAt.RcAt.list_int _ _ hl (by omega), SeqAt.RcNeAt.list_int _ _ hl (by omega)⟩, ⟨SeqAt.RcAt.int_list _ _ hl (by omega), SeqAt.RcNeAt.int_list _ _ hl (by omega)⟩⟩
  | text y u => exact ⟨⟨SeqAt.RcAt.list_str _ _ hl (by omega), SeqAt.RcNeAt.list_str _ _ hl (by omega)⟩, ⟨SeqAt.RcAt.str_list _ _ hl (by omega), SeqAt.RcNeAt.str_list _ _ hl (by omega)⟩⟩
  | tup k1 k2 k3 k4 =>
    have hb : s.heap.IsTuple _ _ := ⟨_, k1, k2, _, k3⟩
    exact ⟨⟨SeqAt.RcAt.list_tuple hl hb (by omega), SeqAt.RcNeAt.list_tuple hl hb (by omega)⟩, ⟨SeqAt.RcAt.tuple_list hb hl (by omega), SeqAt.RcNeAt.tuple_list hb hl (by omega)⟩⟩

/-- what == tells of two values, where it is known -/
def eqQ (S : Sto) (d1 d2 : D) : Option Bool :=
  match keyOf d1, keyOf d2 with
  | some k1, some k2 => if min k1.depth k2.depth ≤ 100 then some (NestedKey.beq k1 k2) else none
  | some _, none => (lstD S d2).map fun _ => false
  | none, some _ => (lstD S d1).map fun _ => false
  | none, none => match lstD S d1, lstD S d2 with
    | some p, some q => match keyOf.keysOf p.1, keyOf.keysOf q.1 with
      | some k1, some k2 => if min (NestedKey.depthAll k1) (NestedKey.depthAll k2) ≤ 100 then some (NestedKey.beqAll k1 k2) else none
      | _, _ => none
    | _, _ => none
section
variable {X : Cx} {pins : List (Addr × Obj)} {σ : St} {H : Hp} {s : Shared} {ρ : List Addr} {S : Sto}
theorem eqQ_ok (hu : X.A.units + 150 < cLine) (I : L2.Inv X pins σ H s) (W : XW X ρ S H) {d1 d2 : D} {v1 v2 : V} {u1 u2 : Value} {b : Bool} (h1 : VR X.K ρ H d1 v1) (h2 : VR X.K ρ H d2 v2) (r1 : RelV v1 u1) (r2 : RelV v2 u2) (e : eqQ S d1 d2 = some b) :
    SeqAt.RcAt X.A s u1 u2 b ∧ SeqAt.RcNeAt X.A s u1 u2 (!b) := by
  unfold eqQ at e
  cases e1 : keyOf d1 with
  | some k1 =>
    have n1 := nested_of I d1 k1 v1 u1 e1 h1 r1
    cases e2 : keyOf d2 with
    | some k2 =>
      simp only [e1, e2] at e
      split at e
      · cases e
        exact rcAt_key k1 k2 u1 u2 n1 (nested_of I d2 k2 v2 u2 e2 h2 r2) (by omega)
      · cases e
    | none =>
      simp only [e1, e2] at e
      cases e3 : lstD S d2 with
      | none =>
        rw [e3] at e
        cases e
      | some p =>
        rw [e3] at e
        cases e
        obtain ⟨a, vs, rfl, g1, g2, g3⟩ := lstD_ok W h2 e3
        cases (show u2 = Value.ref a from r2)
        obtain ⟨its, rv, pl, hz⟩ := I.list g1
        exact (rcAt_mixed pl.isList n1 (by omega)).2
  | none =>
    cases e2 : keyOf d2 with
    | some k2 =>
      simp only [e1, e2] at e
      cases e3 : lstD S d1 with
      | none =>
        rw [e3] at e
        cases e
      | some p =>
        rw [e3] at e
        cases e
        obtain ⟨a, vs, rfl, g1, g2, g3⟩ := lstD_ok W h1 e3
        cases (show u1 = Value.ref a from r1)
        obtain ⟨its, rv, pl, hz⟩ := I.list g1
        exact (rcAt_mixed pl.isList (nested_of I d2 k2 v2 u2 e2 h2 r2) (by omega)).1
    | none =>
      simp only [e1, e2] at e
      cases e3 : lstD S d1 with
      | none =>
        rw [e3] at e
        cases e
      | some p =>
        cases e4 : lstD S d2 with
        | none =>
          rw [e3, e4] at e
          cases e
        | some q =>
          simp only [e3, e4] at e
          cases e5 : keyOf.keysOf p.1 with
          | none =>
            rw [e5] at e
            cases e
          | some k1 =>
            cases e6 : keyOf.keysOf q.1 with
            | none =>
              rw [e5, e6] at e
              cases e
            | some k2 =>
              simp only [e5, e6] at e
              split at e
              · cases e
                obtain ⟨a, vs, rfl, g1, g2, g3⟩ := lstD_ok W h1 e3
                obtain ⟨c, ws, rfl, g4, g5, g6⟩ := lstD_ok W h2 e4
                cases (show u1 = Value.ref a from r1)
                cases (show u2 = Value.ref c from r2)
                obtain ⟨its, rv, pl, hz⟩ := I.list g1
                obtain ⟨its2, rv2, pl2, hz2⟩ := I.list g4
                exact rcAt_lists pl.isList pl2.isList (by simpa using nested_of.go I p.1 k1 vs its e5 g2 rv) (by simpa using nested_of.go I q.1 k2 ws its2 e6 g5 rv2) (by omega)
              · cases e
end
def dEqQ : DOp := fun d1 d2 S R => ∃ b, eqQ S d1 d2 = some b ∧ R (.bl b) S
def dNeQ : DOp := fun d1 d2 S R => ∃ b, eqQ S d1 d2 = some b ∧ R (.bl (!b)) S
section
variable {X : Cx}
theorem od_eqQ (hu : X.A.units + 150 < cLine) : OpR X (compareOp .Eq) (rD X dEqQ) := fun pins s σ H x y v u Q I rx ry ⟨ρ, S, d1, d2, R, W, r1, r2, ⟨b, e, q⟩, p⟩ =>
  (eqQ_ok hu I W r1 r2 rx ry e).1 X.prog X.w _ _ ⟨.bl b, H, I, rfl, p _ _ q ρ H _ (Ext.refl _ _) W .bl⟩
theorem od_neQ (hu : X.A.units + 150 < cLine) : OpR X (compareOp .NotEq) (rD X dNeQ) := fun pins s σ H x y v u Q I rx ry ⟨ρ, S, d1, d2, R, W, r1, r2, ⟨b, e, q⟩, p⟩ =>
  (eqQ_ok hu I W r1 r2 rx ry e).2 X.prog X.w _ _ ⟨.bl (!b), H, I, rfl, p _ _ q ρ H _ (Ext.refl _ _) W .bl⟩
end
end Dl

namespace Dl
open PySem L2

/-! ### in, not in: lists, tuples, texts -/
/-- the items of a list or tuple -/
def seqD (S : Sto) : D → Option (List D)
  | .tup ds => some ds
  | .fls ds => some ds
  | .loc l => match S[l]? with
    | some (.lst xs) => some xs
    | _ => none
  | _ => none
section
variable {X : Cx} {ρ : List Addr} {S : Sto} {H : Hp}
theorem seqD_ok {d : D} {v : V} {ds : List D} (W : XW X ρ S H) (r : VR X.K ρ H d v) (e : seqD S d = some ds) : ∃ a vs, v = .ref a ∧ (SqL X.K H a vs ∨ SqT X.K H a vs) ∧ VRs X.K ρ H ds vs := by
  cases d with
  | tup xs =>
    obtain ⟨a, vs, rfl, h2, h3⟩ := r.tup_of
    have e' : some xs = some ds := e
    cases e'
    exact ⟨a, vs, rfl, .inr h2.sq, h3⟩
  | fls xs =>
    obtain ⟨a, vs, rfl, h2, h3⟩ := r.fls_of
    have e' : some xs = some ds := e
    cases e'
    exact ⟨a, vs, rfl, .inl h2.sq, h3⟩
  | loc l =>
    obtain ⟨a, h2, rfl⟩ := r.loc_of
    simp only [seqD] at e
    split at e
    · rename_i xs h3
      cases e
      obtain ⟨vs, h4, h5⟩ := W.obj l a _ h2 h3
      exact ⟨a, vs, rfl, .inl (SqL.of h4), h5⟩
    · cases e
  | non => cases e
  | bl _ => cases e
  | int _ => cases e
  | str _ => cases e
/-- a key among keys -/
def inKeys (k : NestedKey) (ks : List NestedKey) : Bool := ks.any fun y => NestedKey.beq y k
/-- x in a list or tuple: all are keys -/
def inD (S : Sto) (x y : D) : Option Bool :=
  match seqD S y, keyOf x with
  | some ds, some k => match keyOf.keysOf ds with
    | some ks => if k.depth ≤ 100 then some (inKeys k ks) else none
    | none => none
  | _, _ => none
theorem eqAt_mem {A : Around} {s : Shared} {k : NestedKey} {v : Value} (hv : NestedIs s.heap k v) (hu : A.units + k.depth < cLine) : ∀ (ks : List NestedKey) (us : List Value), NestedAll s.heap ks us →
    ∃ f : Value → Bool, (∀ u ∈ us, SeqAt.EqAt A s u v (f u)) ∧ us.any f = inKeys k ks
  | ks, us, h => by
    classical
    refine ⟨fun u => if ∃ y, NestedIs s.heap y u ∧ NestedKey.beq y k = true then true else false, fun u hm => ?_, ?_⟩
    · have go : ∀ (ks : List NestedKey) (us : List Value), NestedAll s.heap ks us → u ∈ us → ∃ y, NestedIs s.heap y u := by
        intro ks
        induction ks with
        | nil => intro us h hm; cases h; cases hm
        | cons y ys ih =>
          intro us h hm
          cases h with
          | cons h1 h2 =>
            rcases List.mem_cons.mp hm with e | hm
            · exact ⟨y, by rw [e]; exact h1⟩
            · exact ih _ h2 hm
      obtain ⟨y, hy⟩ := go ks us h hm
      have q := eqAt_key y k A s u v hy hv (by omega)
      dsimp only
      by_cases hb : NestedKey.beq y k = true
      · rw [if_pos ⟨y, hy, hb⟩]
        rw [hb] at q
        exact q
      · rw [if_neg (fun ⟨z, hz, hbz⟩ => hb (by rw [NestedIs.inj y z u hy hz]; exact hbz))]
        have : NestedKey.beq y k = false := by simpa using hb
        rw [this] at q
        exact q
    · clear hu
      revert us
      induction ks with
      | nil => intro us h; cases h; rfl
      | cons y ys ih =>
        intro us h
        cases h with
        | @cons _ u _ us' h1 h2 =>
          unfold inKeys
          rw [List.any_cons, List.any_cons]
          have ih' := ih _ h2
          unfold inKeys at ih'
          rw [ih']
          congr 1
          by_cases hb : NestedKey.beq y k = true
          · rw [if_pos ⟨y, h1, hb⟩, hb]
          · rw [if_neg (fun ⟨z, hz, hbz⟩ => hb (by rw [NestedIs.inj y z u h1 hz]; exact hbz))]
            simpa using hb
theorem inD_ok {pins : List (Addr × Obj)} {σ : St} {s : Shared} (hu : X.A.units + 150 < cLine) (I : L2.Inv X pins σ H s) (W : XW X ρ S H) {x y : D} {vx vy : V} {ux uy : Value} {b : Bool} (h1 : VR X.K ρ H x vx) (h2 : VR X.K ρ H y vy) (r1 : RelV vx ux) (r2 : RelV vy uy)
    (e : inD S x y = some b) {Q : Value → Shared → Prop} {E : Value → Shared → Prop} : (Q (.bool b) s → wpAny (model X.prog X.w) X.A (compareOp .In ux uy) Q E s) ∧ (Q (.bool (!b)) s → wpAny (model X.prog X.w) X.A (compareOp .NotIn ux uy) Q E s) := by
  unfold inD at e
  cases e1 : seqD S y with
  | none =>
    rw [e1] at e
    cases e
  | some ds =>
    cases e2 : keyOf x with
    | none =>
      rw [e1, e2] at e
      cases e
    | some k =>
      simp only [e1, e2] at e
      cases e3 : keyOf.keysOf ds with
      | none =>
        rw [e3] at e
        cases e
      | some ks =>
        simp only [e3] at e
        split at e
        · cases e
          obtain ⟨a, vs, rfl, g1, g2⟩ := seqD_ok W h2 e1
          cases (show uy = Value.ref a from r2)
          have nx := nested_of I x k vx ux e2 h1 r1
          have hd : X.A.in1.units + k.depth < cLine := by
            show X.A.units + 1 + _ < _
            omega
          rcases g1 with g1 | g1
          · obtain ⟨its, rv, pl, hz⟩ := I.list g1
            obtain ⟨f, hf, hany⟩ := eqAt_mem nx hd ks its (nested_of.go I ds ks vs its e3 g2 rv)
            have ea : its.toArray.any f = inKeys k ks := by rw [← hany]; simp
            exact ⟨fun q => SeqAt.in_listAt f pl.isList (fun u hm => hf u (by simpa using hm)) (by rw [ea]; exact q), fun q => SeqAt.notIn_listAt f pl.isList (fun u hm => hf u (by simpa using hm)) (by rw [ea]; exact q)⟩
          · obtain ⟨its, rv, pl, hz⟩ := I.tuple g1
            obtain ⟨f, hf, hany⟩ := eqAt_mem nx hd ks its (nested_of.go I ds ks vs its e3 g2 rv)
            have ea : its.toArray.any f = inKeys k ks := by rw [← hany]; simp
            exact ⟨fun q => SeqAt.in_tupleAt f pl (fun u hm => hf u (by simpa using hm)) (by rw [ea]; exact q), fun q => SeqAt.notIn_tupleAt f pl (fun u hm => hf u (by simpa using hm)) (by rw [ea]; exact q)⟩
        · cases e
def dInQ : DOp := fun d1 d2 S R => ∃ b, inD S d1 d2 = some b ∧ R (.bl b) S
def dNotInQ : DOp := fun d1 d2 S R => ∃ b, inD S d1 d2 = some b ∧ R (.bl (!b)) S
theorem od_inQ (hu : X.A.units + 150 < cLine) : OpR X (compareOp .In) (rD X dInQ) := fun pins s σ H x y v u Q I rx ry ⟨ρ, S, d1, d2, R, W, r1, r2, ⟨b, e, q⟩, p⟩ =>
  (inD_ok hu I W r1 r2 rx ry e).1 ⟨.bl b, H, I, rfl, p _ _ q ρ H _ (Ext.refl _ _) W .bl⟩
theorem od_notInQ (hu : X.A.units + 150 < cLine) : OpR X (compareOp .NotIn) (rD X dNotInQ) := fun pins s σ H x y v u Q I rx ry ⟨ρ, S, d1, d2, R, W, r1, r2, ⟨b, e, q⟩, p⟩ =>
  (inD_ok hu I W r1 r2 rx ry e).2 ⟨.bl (!b), H, I, rfl, p _ _ q ρ H _ (Ext.refl _ _) W .bl⟩
/-- one sign in a text -/
def dInS : DOp := fun d1 d2 S R => ∃ (c : Nat) (z : Str), d1 = .str ⟨#[c]⟩ ∧ d2 = .str z ∧ R (.bl (decide (c ∈ z.cps.toList))) S
def dNotInS : DOp := fun d1 d2 S R => ∃ (c : Nat) (z : Str), d1 = .str ⟨#[c]⟩ ∧ d2 = .str z ∧ R (.bl (!decide (c ∈ z.cps.toList))) S
theorem od_inS : OpR X (compareOp .In) (rD X dInS) := OpR.imp op_in_sign fun x y H Q ⟨ρ, S, d1, d2, R, W, r1, r2, ⟨c, z, e1, e2, q⟩, p⟩ => by
  subst e1 e2
  exact ⟨c, z, r1.str_of, r2.str_of, p _ _ q ρ H _ (Ext.refl _ _) W .bl⟩
theorem od_notInS : OpR X (compareOp .NotIn) (rD X dNotInS) := OpR.imp op_notIn_sign fun x y H Q ⟨ρ, S, d1, d2, R, W, r1, r2, ⟨c, z, e1, e2, q⟩, p⟩ => by
  subst e1 e2
  exact ⟨c, z, r1.str_of, r2.str_of, p _ _ q ρ H _ (Ext.refl _ _) W .bl⟩
/-! ### is None -/
def isNonD : D → Bool
  | .non => true
  | _ => false
def dIsN : DOp := fun d1 d2 S R => d2 = .non ∧ R (.bl (isNonD d1)) S
def dIsNotN : DOp := fun d1 d2 S R => d2 = .non ∧ R (.bl (!isNonD d1)) S
theorem isN_ok {d : D} {v : V} (r : VR X.K ρ H d v) : decide (v = .non) = isNonD d := by
  cases d with
  | non => cases r.non_of; rfl
  | bl _ => cases r.bl_of; rfl
  | int _ => cases r.int_of; rfl
  | str _ => cases r.str_of; rfl
  | tup _ => obtain ⟨a, vs, rfl, _⟩ := r.tup_of; rfl
  | fls _ => obtain ⟨a, vs, rfl, _⟩ := r.fls_of; rfl
  | loc _ => obtain ⟨a, _, rfl⟩ := r.loc_of; rfl
theorem od_isN : OpR X (compareOp .Is) (rD X dIsN) := OpR.imp op_isN fun x y H Q ⟨ρ, S, d1, d2, R, W, r1, r2, ⟨e2, q⟩, p⟩ => by
  subst e2
  refine ⟨r2.non_of, p _ _ ?_ ρ H _ (Ext.refl _ _) W .bl⟩
  rw [isN_ok r1]
  exact q
theorem od_isNotN : OpR X (compareOp .IsNot) (rD X dIsNotN) := OpR.imp op_notN fun x y H Q ⟨ρ, S, d1, d2, R, W, r1, r2, ⟨e2, q⟩, p⟩ => by
  subst e2
  refine ⟨r2.non_of, p _ _ ?_ ρ H _ (Ext.refl _ _) W .bl⟩
  rw [isN_ok r1]
  exact q

/-! ### places and slices -/
def dIxQ : DOp := fun d1 d2 S R => ∃ i, d2 = .int i ∧ ((∃ ds d, seqD S d1 = some ds ∧ atI ds i = some d ∧ R d S) ∨ ∃ z c, d1 = .str z ∧ z.length ≤ sizeLine ∧ atI z.cps.toList i = some c ∧ R (.str ⟨#[c]⟩) S)
theorem VRs.at {K : PySem.W.Frag} {ds : List D} {vs : List V} {i : Int} {d : D} (h : VRs K ρ H ds vs) (e : atI ds i = some d) : ∃ v, atI vs i = some v ∧ VR K ρ H d v := by
  unfold atI at e ⊢
  rw [h.length]
  cases hj : ixN ds.length i with
  | none =>
    rw [hj] at e
    cases e
  | some j =>
    rw [hj] at e
    exact h.get e
theorem od_ixQ : IxR X (rD X dIxQ) := IxR.imp ix_seq fun x y H Q ⟨ρ, S, d1, d2, R, W, r1, r2, ⟨i, e2, h⟩, p⟩ => by
  subst e2
  cases r2.int_of
  rcases h with ⟨ds, d, e1, e3, q⟩ | ⟨z, c, e1, hz, e3, q⟩
  · obtain ⟨a, vs, rfl, g1, g2⟩ := seqD_ok W r1 e1
    obtain ⟨v, hv, rv⟩ := g2.at e3
    have fin := p _ _ q ρ H v (Ext.refl _ _) W rv
    rcases g1 with g1 | g1
    · exact .inl ⟨a, vs, i, v, rfl, rfl, g1, hv, fin⟩
    · exact .inr (.inl ⟨a, vs, i, v, rfl, rfl, g1, hv, fin⟩)
  · subst e1
    exact .inr (.inr ⟨z, i, c, r1.str_of, rfl, hz, e3, p _ _ q ρ H _ (Ext.refl _ _) W .str⟩)
/-- the cut of a list by the parts of a slice -/
def cutD (xs : List D) (lo hi : Option Int) : List D := (xs.drop (HT.sIx xs.length 0 lo)).take (HT.sIx xs.length xs.length hi - HT.sIx xs.length 0 lo)
theorem VRs.cut {K : PySem.W.Frag} {ds : List D} {vs : List V} (h : VRs K ρ H ds vs) (lo hi : Option Int) : VRs K ρ H (cutD ds lo hi) (cutV vs lo hi) := by
  unfold cutD
  rw [← h.length]
  exact (h.drop _).take _
def dSlL : DSl := fun d lo hi S R => ∃ p, lstD S d = some p ∧ R (.loc S.length) (S ++ [.lst (cutD p.1 lo hi)])
def dSlT : DSl := fun d lo hi S R => ∃ ds, d = .tup ds ∧ R (.tup (cutD ds lo hi)) S
def dSlS : DSl := fun d lo hi S R => ∃ z, d = .str z ∧ z.length ≤ sizeLine ∧ R (.str (cutS z lo hi)) S
theorem sd_list : SlR X (rSlD X dSlL) := SlR.imp sl_list fun x lo hi H Q ⟨ρ, S, d, R, W, r, ⟨pr, e, q⟩, p⟩ => by
  obtain ⟨a, vs, rfl, h1, h2, _⟩ := lstD_ok W r e
  exact ⟨a, vs, rfl, h1, fun c hc => new_lst W (h2.cut lo hi) q p hc⟩
theorem sd_tup : SlR X (rSlD X dSlT) := SlR.imp sl_tupA fun x lo hi H Q ⟨ρ, S, d, R, W, r, ⟨ds, e, q⟩, p⟩ => by
  subst e
  obtain ⟨a, vs, rfl, h1, h2⟩ := r.tup_of
  refine ⟨a, vs, rfl, h1.sq, fun ⟨w1, w2⟩ => ?_, fun _ c hc => new_tup W (h2.cut lo hi) q p hc⟩
  have e : cutD ds lo hi = ds := by
    unfold cutD
    rw [h2.length] at w1 w2
    rw [w1, w2]
    simp
  rw [e] at q
  exact p _ _ q ρ H _ (Ext.refl _ _) W (.tup h1 h2)
theorem sd_str : SlR X (rSlD X dSlS) := SlR.imp sl_str fun x lo hi H Q ⟨ρ, S, d, R, W, r, ⟨z, e, hz, q⟩, p⟩ => by
  subst e
  exact ⟨z, r.str_of, hz, p _ _ q ρ H _ (Ext.refl _ _) W .str⟩
def dSl : DSl := slOr dSlL (slOr dSlT dSlS)
theorem sd_any : SlR X (rSlD X dSl) := SlD.or sd_list (SlD.or sd_tup sd_str)

/-! ### built-ins -/
def lenD (S : Sto) : D → Option Nat
  | .str x => if x.length ≤ sizeLine then some x.length else none
  | d => (seqD S d).map List.length
def dLenQ : DCall := fun ds S R => ∃ d n, ds = [d] ∧ lenD S d = some n ∧ R (.int (n : Nat)) S
theorem cd_lenQ : CallR X (.builtin "len") (rCD X dLenQ) := CallR.imp call_len fun xs H Q ⟨ρ, S, ds, R, W, r, ⟨d, n, e1, e2, q⟩, p⟩ => by
  subst e1
  obtain ⟨v, rfl, rv⟩ := r.one_of
  refine ⟨v, n, rfl, ?_, p _ _ q ρ H _ (Ext.refl _ _) W .int⟩
  have sq : ∀ ds, seqD S d = some ds → n = ds.length → LenV X.K v H n := fun ds e h => by
    obtain ⟨a, vs, rfl, g1, g2⟩ := seqD_ok W rv e
    rcases g1 with g1 | g1
    · exact .inl ⟨vs, g1, by rw [h, g2.length]⟩
    · exact .inr ⟨vs, g1, by rw [h, g2.length]⟩
  have other : ∀ (_ : lenD S d = (seqD S d).map List.length), LenV X.K v H n := fun h => by
    rw [h] at e2
    cases e3 : seqD S d with
    | none =>
      rw [e3] at e2
      cases e2
    | some ds =>
      rw [e3] at e2
      cases e2
      exact sq ds e3 rfl
  cases d with
  | str x =>
    cases rv.str_of
    have e' : (if x.length ≤ sizeLine then some x.length else none) = some n := e2
    by_cases hz : x.length ≤ sizeLine
    · rw [if_pos hz] at e'
      exact ⟨hz, (Option.some.inj e').symm⟩
    · rw [if_neg hz] at e'
      cases e'
  | tup ds => exact other rfl
  | fls ds => exact other rfl
  | loc l => exact other rfl
  | non => exact other rfl
  | bl _ => exact other rfl
  | int _ => exact other rfl
def dList : DCall := fun ds S R => ∃ d xs, ds = [d] ∧ seqD S d = some xs ∧ R (.loc S.length) (S ++ [.lst xs])
theorem cd_list : CallR X (.type "list") (rCD X dList) := CallR.imp call_list_of fun xs H Q ⟨ρ, S, ds, R, W, r, ⟨d, ys, e1, e2, q⟩, p⟩ => by
  subst e1
  obtain ⟨v, rfl, rv⟩ := r.one_of
  obtain ⟨a, vs, rfl, g1, g2⟩ := seqD_ok W rv e2
  exact ⟨a, vs, rfl, g1, fun c hc => new_lst W g2 q p hc⟩
def dTuple : DCall := fun ds S R => ∃ d xs, ds = [d] ∧ seqD S d = some xs ∧ R (.tup xs) S
theorem cd_tuple : CallR X (.type "tuple") (rCD X dTuple) := CallR.imp call_tuple_of fun xs H Q ⟨ρ, S, ds, R, W, r, ⟨d, ys, e1, e2, q⟩, p⟩ => by
  subst e1
  obtain ⟨v, rfl, rv⟩ := r.one_of
  have lst : ∀ pr : List D × (Sto → Prop), lstD S d = some pr → pr.1 = ys → ∃ a us, [v] = [V.ref a] ∧ ((SqL X.K H a us ∧ ∀ l, H l = none → Q (.ref l) (upd H l (.tup us))) ∨ (SqT X.K H a us ∧ Q (.ref a) H)) := fun pr e h => by
    obtain ⟨a, vs, rfl, g1, g2, _⟩ := lstD_ok W rv e
    subst h
    exact ⟨a, vs, rfl, .inl ⟨g1, fun c hc => new_tup W g2 q p hc⟩⟩
  cases d with
  | tup zs =>
    obtain ⟨a, vs, rfl, h2, h3⟩ := rv.tup_of
    have e' : some zs = some ys := e2
    cases e'
    exact ⟨a, vs, rfl, .inr ⟨h2.sq, p _ _ q ρ H _ (Ext.refl _ _) W (.tup h2 h3)⟩⟩
  | fls zs =>
    have e' : some zs = some ys := e2
    cases e'
    exact lst _ rfl rfl
  | loc l =>
    simp only [seqD] at e2
    split at e2
    · rename_i zs h3
      cases e2
      exact lst (ys, fun S' => S'[l]? = some (.lst ys)) (by simp only [lstD, h3]) rfl
    · cases e2
  | non => cases e2
  | bl _ => cases e2
  | int _ => cases e2
  | str _ => cases e2
def dMax2 : DCall := fun ds S R => ∃ i j, ds = [.int i, .int j] ∧ R (.int (if j > i then j else i)) S
def dMin2 : DCall := fun ds S R => ∃ i j, ds = [.int i, .int j] ∧ R (.int (if j < i then j else i)) S
theorem cd_max2 (hc : X.calm = true) : CallR X (.builtin "max") (rCD X dMax2) := CallR.imp (call_max2 hc) fun xs H Q ⟨ρ, S, ds, R, W, r, ⟨i, j, e1, q⟩, p⟩ => by
  subst e1
  obtain ⟨v, u, rfl, r1, r2⟩ := r.two_of
  cases r1.int_of
  cases r2.int_of
  exact ⟨i, j, rfl, p _ _ q ρ H _ (Ext.refl _ _) W .int⟩
theorem cd_min2 (hc : X.calm = true) : CallR X (.builtin "min") (rCD X dMin2) := CallR.imp (call_min2 hc) fun xs H Q ⟨ρ, S, ds, R, W, r, ⟨i, j, e1, q⟩, p⟩ => by
  subst e1
  obtain ⟨v, u, rfl, r1, r2⟩ := r.two_of
  cases r1.int_of
  cases r2.int_of
  exact ⟨i, j, rfl, p _ _ q ρ H _ (Ext.refl _ _) W .int⟩
/-- the truths of a list -/
def blsD : List D → Option (List Bool)
  | [] => some []
  | .bl b :: r => (blsD r).map (b :: ·)
  | _ :: _ => none
theorem blsD_ok : ∀ {ds : List D} {bs : List Bool} {vs : List V}, blsD ds = some bs → VRs X.K ρ H ds vs → vs = bs.map V.bl
  | [], bs, vs, e, h => by
    cases h.nil_of
    have e' : some [] = some bs := e
    cases e'
    rfl
  | d :: ds, bs, vs, e, h => by
    unfold VRs at h
    obtain ⟨v, vr, rfl, h1, h2⟩ := h
    cases d with
    | bl b =>
      have e' : (blsD ds).map (b :: ·) = some bs := e
      cases e1 : blsD ds with
      | none =>
        rw [e1] at e'
        cases e'
      | some bs' =>
        rw [e1] at e'
        cases e'
        rw [blsD_ok e1 h2, h1.bl_of]
        rfl
    | non => cases e
    | int _ => cases e
    | str _ => cases e
    | tup _ => cases e
    | fls _ => cases e
    | loc _ => cases e
def dAll : DCall := fun ds S R => ∃ d p bs, ds = [d] ∧ lstD S d = some p ∧ blsD p.1 = some bs ∧ R (.bl (bs.all id)) S
def dAny : DCall := fun ds S R => ∃ d p bs, ds = [d] ∧ lstD S d = some p ∧ blsD p.1 = some bs ∧ R (.bl (bs.any id)) S
theorem cd_all (hc : X.calm = true) : CallR X (.builtin "all") (rCD X dAll) := CallR.imp (cr_all hc) fun xs H Q ⟨ρ, S, ds, R, W, r, ⟨d, pr, bs, e1, e2, e3, q⟩, p⟩ => by
  subst e1
  obtain ⟨v, rfl, rv⟩ := r.one_of
  obtain ⟨a, vs, rfl, g1, g2, _⟩ := lstD_ok W rv e2
  exact ⟨a, bs, rfl, by rw [← blsD_ok e3 g2]; exact g1, p _ _ q ρ H _ (Ext.refl _ _) W .bl⟩
theorem cd_any (hc : X.calm = true) : CallR X (.builtin "any") (rCD X dAny) := CallR.imp (cr_any hc) fun xs H Q ⟨ρ, S, ds, R, W, r, ⟨d, pr, bs, e1, e2, e3, q⟩, p⟩ => by
  subst e1
  obtain ⟨v, rfl, rv⟩ := r.one_of
  obtain ⟨a, vs, rfl, g1, g2, _⟩ := lstD_ok W rv e2
  exact ⟨a, bs, rfl, by rw [← blsD_ok e3 g2]; exact g1, p _ _ q ρ H _ (Ext.refl _ _) W .bl⟩

/-! ### isinstance of a built-in type -/
def typD (S : Sto) : D → Option String
  | .non => some "NoneType"
  | .bl _ => some "bool"
  | .int _ => some "int"
  | .str _ => some "str"
  | .tup _ => some "tuple"
  | .fls _ => some "list"
  | .loc l => match S[l]? with
    | some (.lst _) => some "list"
    | some (.dct _ _) => some "dict"
    | _ => none
def wIsi (T : String) (we : WE) : WE := fun τ S R => we τ S fun d S1 => ∃ t b, typD S1 d = some t ∧ kitB t T = some b ∧ R (.bl b) S1
/-- what the library's isinstance rules ask -/
theorem kitD {pins : List (Addr × Obj)} {σ : St} {s : Shared} {d : D} {v : V} {u : Value} {t : String} (I : L2.Inv X pins σ H s) (W : XW X ρ S H) (h : VR X.K ρ H d v) (r : RelV v u) (e : typD S d = some t) :
    ∃ P : Heap → Prop, PySem.W.KitX X.K u (.type t) P ∧ P s.heap ∧ u ≠ .builtin "__main__.__loader__#opaque" := by
  cases d with
  | non =>
    cases h.non_of
    have e' : some "NoneType" = some t := e
    cases e'
    exact kit_of I r (.base .non)
  | bl b =>
    cases h.bl_of
    have e' : some "bool" = some t := e
    cases e'
    exact kit_of I r (.base (.bl b))
  | int i =>
    cases h.int_of
    have e' : some "int" = some t := e
    cases e'
    exact kit_of I r (.base (.int i))
  | str x =>
    cases h.str_of
    have e' : some "str" = some t := e
    cases e'
    exact kit_of I r (.base (.str x))
  | tup ds =>
    obtain ⟨a, vs, rfl, h1, h2⟩ := h.tup_of
    have e' : some "tuple" = some t := e
    cases e'
    cases (show u = Value.ref a from r)
    obtain ⟨its, rv, ⟨o, ho, hc, _⟩, _⟩ := I.tuple h1.sq
    exact ⟨_, PySem.W.kitx_tuple, ⟨o, ho, hc⟩, fun z => nomatch z⟩
  | fls ds =>
    obtain ⟨a, vs, rfl, h1, h2⟩ := h.fls_of
    have e' : some "list" = some t := e
    cases e'
    cases (show u = Value.ref a from r)
    obtain ⟨its, rv, pl, _⟩ := I.list h1.sq
    obtain ⟨o, ho, hc, _⟩ := pl.isList
    exact ⟨_, PySem.W.kitx_list, ⟨o, ho, hc⟩, fun z => nomatch z⟩
  | loc l =>
    obtain ⟨a, h1, rfl⟩ := h.loc_of
    cases (show u = Value.ref a from r)
    simp only [typD] at e
    split at e
    · rename_i xs h3
      cases e
      obtain ⟨vs, h4, h5⟩ := W.obj l a _ h1 h3
      exact kit_of I r (.base (.lst h4))
    · rename_i ep kvs h3
      cases e
      obtain ⟨_, _, _, es, h4, _⟩ := W.obj l a _ h1 h3
      obtain ⟨⟨o, ho, hx, _⟩, _⟩ := I.hok a _ h4
      exact ⟨_, PySem.W.kitx_dict, ⟨o, ho, hx.1⟩, fun z => nomatch z⟩
    · cases e
theorem de_isi {e : Expr} {we : WE} {x : Str} {n : String} {p p2 pos : Pos} (hm : X.mg "isinstance" = none) (hg : Gl X "isinstance") (hmT : X.mg x = none) (hgT : Gl X x) (hvT : bootBuiltins x = some (.type n)) (he : PE X e (dE X we)) (hn : x ≠ "__name__" := by decide) (hdb : (x == ("__debug__" : Str)) = false := by decide)
    (hs : starEach (e :: [Expr.Name x p2]) X.env = (false, eval e X.env) :: starEach [Expr.Name x p2] X.env := by rfl) (hpl : (backTo pos (starEach [Expr.Name x p2] X.env)).any (·.1) = false := by rfl) (hs2 : starEach [Expr.Name x p2] X.env = (false, eval (Expr.Name x p2) X.env) :: starEach [] X.env := by rfl) :
    PE X (.Call (.Name "isinstance" p) [e, .Name x p2] [] pos) (dE X (wIsi n we)) := by
  have rule : CallR X (.builtin "isinstance") (fun xs H Q => ∃ v, xs = [v, .ty n] ∧ ∃ ρ S d t b, XW X ρ S H ∧ VR X.K ρ H d v ∧ typD S d = some t ∧ kitB t n = some b ∧ Q (.bl b) H) := by
    intro pins s σ H xs us Q I r ⟨v, e1, ρ, S, d, t, b, W, rv, et, eb, q⟩
    subst e1
    obtain ⟨u1, u2, rfl, r1, r2⟩ := vals2 r
    cases (show u2 = Value.type n from r2)
    obtain ⟨P, Z, hp, hx⟩ := kitD I W rv r1 et
    exact PySem.W.kia_one Z I.kIn hp (kit_ty eb) hx fun tk => ⟨.bl b, H, I.tok tk, rfl, q⟩
  refine PE.imp (pe_callB rule hg hm (by decide +kernel) (pa_cons he (pa_cons (pe_bltn (v := .ty n) hgT hmT hvT rfl hn hdb) pa_nil hs2) hs) (by decide) (by decide) hs hpl) fun σ H Q ⟨ρ, τ, S, R, W, er, h, p⟩ => ?_
  exact ⟨ρ, τ, S, _, W, er, h, fun d S1 ⟨t, b, et, eb, q⟩ ρ1 H1 v x1 W1 r1 => ⟨v, rfl, ρ1, S1, d, t, b, W1, r1, et, eb, p _ _ q ρ1 H1 _ x1 W1 .bl⟩⟩
end
end Dl

namespace Dl
open PySem L2 PyProof.Rows PySem.Spec

/-! ### stores into lists, the methods of lists and texts -/
def dSetL : DSet := fun d1 d2 d3 S R => ∃ l xs i j, d1 = .loc l ∧ d2 = .int i ∧ S[l]? = some (.lst xs) ∧ ixN xs.length i = some j ∧ R (S.set l (.lst (xs.set j d3)))
section
variable {X : Cx} {ρ : List Addr} {S : Sto} {H : Hp}
/-- a list of the store is rewritten -/
theorem write_lst {l : Nat} {a : Addr} {xs ys : List D} {vs us : List V} (W : XW X ρ S H) (h1 : ρ[l]? = some a) (h2 : H a = some (.lst vs)) (r : VRs X.K ρ H ys us) :
    Ext ρ H ρ (upd H a (.lst us)) ∧ XW X ρ (S.set l (.lst ys)) (upd H a (.lst us)) := by
  have vx : VX ρ H ρ (upd H a (.lst us)) := vx_upd h2 (fun vs q => by cases q) (fun x y q => by cases q)
  exact ⟨ext_write (List.mem_of_getElem? h1), W.write h1 ⟨us, upd_same, VRs.vx vx _ _ r⟩⟩
theorem sd_setL : PSet X (rSetD X dSetL) := PSet.imp set_list fun o i v H Q ⟨ρ, S, d1, d2, d3, R, W, r1, r2, r3, ⟨l, xs, k, j, e1, e2, g, hj, q⟩, p⟩ => by
  subst e1 e2
  obtain ⟨a, h1, rfl⟩ := r1.loc_of
  obtain ⟨vs, h3, h4⟩ := W.obj l a _ h1 g
  obtain ⟨x1, W1⟩ := write_lst (xs := xs) W h1 h3 (VRs.set r3 j h4)
  exact ⟨a, vs, k, j, rfl, r2.int_of, h3, by rw [h4.length]; exact hj, p _ q ρ _ x1 W1⟩

/-! ### methods -/
abbrev DMt := D → List D → Sto → DQ → Prop
def rMD (X : Cx) (op : DMt) : V → List V → Hp → VK → Prop := fun x xs H Q => ∃ ρ S d ds R, XW X ρ S H ∧ VR X.K ρ H d x ∧ VRs X.K ρ H ds xs ∧ op d ds S R ∧ PassE X ρ H R Q
theorem MtR.imp {id : String} {r r' : V → List V → Hp → VK → Prop} (h : MtR X id r) (k : ∀ x xs H Q, r' x xs H Q → r x xs H Q) : MtR X id r' := fun pins s σ H x xs v us Q I rx rs q => h pins s σ H x xs v us Q I rx rs (k x xs H Q q)
theorem MtD.or {id : String} {o o' : DMt} (h : MtR X id (rMD X o)) (h' : MtR X id (rMD X o')) : MtR X id (rMD X fun d ds S R => o d ds S R ∨ o' d ds S R) :=
  MtR.imp (MtR.or h h') fun x xs H Q ⟨ρ, S, d, ds, R, W, r1, r2, q, p⟩ => q.imp (fun q => ⟨ρ, S, d, ds, R, W, r1, r2, q, p⟩) fun q => ⟨ρ, S, d, ds, R, W, r1, r2, q, p⟩
/-- the values of a built-in type -/
def tyD (S : Sto) (T : String) : D → Prop
  | .str _ => T = "str"
  | .loc l => ∃ xs, T = "list" ∧ S[l]? = some (.lst xs)
  | _ => False
theorem tyD_ok {T : String} {d : D} {v : V} (W : XW X ρ S H) (r : VR X.K ρ H d v) (h : tyD S T d) : tyV X.K T v H := by
  cases d with
  | str x =>
    cases r.str_of
    exact h
  | loc l =>
    obtain ⟨a, h1, rfl⟩ := r.loc_of
    obtain ⟨xs, rfl, h2⟩ := h
    obtain ⟨vs, h3, h4⟩ := W.obj l a _ h1 h2
    exact .inl ⟨rfl, vs, SqL.of h3⟩
  | non => exact h.elim
  | bl _ => exact h.elim
  | int _ => exact h.elim
  | tup _ => exact h.elim
  | fls _ => exact h.elim
def wMt0 (T : String) (o : DMt) (we : WE) : WE := fun τ S R => we τ S fun d S1 => tyD S1 T d ∧ o d [] S1 R
def wMt (T : String) (o : DMt) (we : WE) (wr : WA) : WE := fun τ S R => we τ S fun d S1 => tyD S1 T d ∧ wr τ S1 fun ds S2 => o d ds S2 R
variable {o e : Expr} {es : List Expr} {we : WE} {wr : WA} {name : Str} {apos cpos : Pos} {T id : String} {op : DMt}
theorem de_mt0 (pa : PlainAttrs T) (slot : Slot T name id) (hty : typeOf (.builtin id) = pure (.type "method_descriptor")) (hm : MtR X id (rMD X op)) (ho : PE X o (dE X we))
    (hbase : attributeBase o name X.env (eval o X.env) = eval o X.env := by rfl) (hline : (apos.endLine == cpos.line) = true := by rfl) : PE X (.Call (.Attribute o name apos) [] [] cpos) (dE X (wMt0 T op we)) :=
  PE.imp (pe_bm0 pa slot hty hm ho hbase hline) fun σ H Q ⟨ρ, τ, S, R, W, er, h, p⟩ => ⟨ρ, τ, S, _, W, er, h, fun d S1 ⟨ty, h1⟩ ρ1 H1 v x1 W1 r => ⟨tyD_ok W1 r ty, ρ1, S1, d, [], R, W1, r, .nil, h1, p.ext W1 x1⟩⟩
theorem de_mt (pa : PlainAttrs T) (slot : Slot T name id) (hty : typeOf (.builtin id) = pure (.type "method_descriptor")) (hm : MtR X id (rMD X op)) (ho : PE X o (dE X we)) (ha : PA X (e :: es) (dA X wr))
    (hbase : attributeBase o name X.env (eval o X.env) = eval o X.env := by rfl)
    (hfew : ((backTo cpos (starEach (e :: es) X.env)).all (fun x => !x.1) && (backToKw cpos (keywordEach [] X.env)).all (fun x => x.1.isSome)
      && decide ((e :: es).length + ([] : List Keyword).length + (if ([] : List Keyword).isEmpty then 0 else 1) < 30)) = true := by rfl)
    (hline : (apos.endLine == cpos.line) = true := by rfl) (hs : starEach (e :: es) X.env = (false, eval e X.env) :: starEach es X.env := by rfl) (hplain : (backTo cpos (starEach es X.env)).any (·.1) = false := by rfl) :
    PE X (.Call (.Attribute o name apos) (e :: es) [] cpos) (dE X (wMt T op we wr)) :=
  PE.imp (pe_bm pa slot hty hm ho ha hbase hfew hline hs hplain) fun σ H Q ⟨ρ, τ, S, R, W, er, h, p⟩ => ⟨ρ, τ, S, _, W, er, h, fun d S1 ⟨ty, h1⟩ ρ1 H1 v x1 W1 r => ⟨tyD_ok W1 r ty,
    ⟨ρ1, τ, S1, _, W1, er.ext W.sep x1, h1, fun ds S2 h2 ρ2 H2 vs x2 W2 r2 => ⟨ρ2, S2, d, ds, R, W2, r.ext W1.sep x2, r2, h2, (p.ext W1 x1).ext W2 x2⟩⟩⟩⟩

def dAppend : DMt := fun d ds S R => ∃ l xs y, d = .loc l ∧ ds = [y] ∧ S[l]? = some (.lst xs) ∧ xs.length < sizeLine ∧ R .non (S.set l (.lst (xs ++ [y])))
theorem md_append : MtR X "list.append" (rMD X dAppend) := MtR.imp mt_append fun x us H Q ⟨ρ, S, d, ds, R, W, r1, r2, ⟨l, xs, y, e1, e2, g, hz, q⟩, p⟩ => by
  subst e1 e2
  obtain ⟨a, h1, rfl⟩ := r1.loc_of
  obtain ⟨v, rfl, rv⟩ := r2.one_of
  obtain ⟨vs, h3, h4⟩ := W.obj l a _ h1 g
  obtain ⟨x1, W1⟩ := write_lst (xs := xs) W h1 h3 (h4.snoc rv)
  exact ⟨a, vs, v, rfl, rfl, h3, by rw [h4.length]; exact hz, p _ _ q ρ _ _ x1 W1 .non⟩
def dExtend : DMt := fun d ds S R => ∃ l m xs ys, d = .loc l ∧ ds = [.loc m] ∧ S[l]? = some (.lst xs) ∧ S[m]? = some (.lst ys) ∧ xs.length + ys.length ≤ sizeLine ∧ R .non (S.set l (.lst (xs ++ ys)))
theorem md_extend : MtR X "list.extend" (rMD X dExtend) := MtR.imp mt_extend fun x us H Q ⟨ρ, S, d, ds, R, W, r1, r2, ⟨l, m, xs, ys, e1, e2, g, g2, hz, q⟩, p⟩ => by
  subst e1 e2
  obtain ⟨a, h1, rfl⟩ := r1.loc_of
  obtain ⟨v, rfl, rv⟩ := r2.one_of
  obtain ⟨b, h2, rfl⟩ := rv.loc_of
  obtain ⟨vs, h3, h4⟩ := W.obj l a _ h1 g
  obtain ⟨ws, h5, h6⟩ := W.obj m b _ h2 g2
  obtain ⟨x1, W1⟩ := write_lst (xs := xs) W h1 h3 (h4.append h6)
  exact ⟨a, b, vs, ws, rfl, rfl, h3, h5, by rw [h4.length, h6.length]; exact hz, p _ _ q ρ _ _ x1 W1 .non⟩
theorem VRs.dropLast {K : PySem.W.Frag} {ds : List D} {vs : List V} (h : VRs K ρ H ds vs) : VRs K ρ H ds.dropLast vs.dropLast := by
  rw [List.dropLast_eq_take, List.dropLast_eq_take, h.length]
  exact h.take _
theorem VRs.eraseIdx {K : PySem.W.Frag} : ∀ {ds : List D} {vs : List V} (i : Nat), VRs K ρ H ds vs → VRs K ρ H (ds.eraseIdx i) (vs.eraseIdx i)
  | [], vs, i, h => by
    cases h.nil_of
    exact .nil
  | d :: ds, vs, i, h => by
    unfold VRs at h
    obtain ⟨v, vr, rfl, h2, h3⟩ := h
    cases i with
    | zero => exact h3
    | succ i => exact .cons h2 (VRs.eraseIdx i h3)
def dPop : DMt := fun d ds S R => ∃ l xs y, d = .loc l ∧ ds = [] ∧ S[l]? = some (.lst xs) ∧ xs[xs.length - 1]? = some y ∧ R y (S.set l (.lst xs.dropLast))
theorem md_pop : MtR X "list.pop" (rMD X dPop) := MtR.imp mt_pop fun x us H Q ⟨ρ, S, d, ds, R, W, r1, r2, ⟨l, xs, y, e1, e2, g, hy, q⟩, p⟩ => by
  subst e1 e2
  obtain ⟨a, h1, rfl⟩ := r1.loc_of
  cases r2.nil_of
  obtain ⟨vs, h3, h4⟩ := W.obj l a _ h1 g
  obtain ⟨x1, W1⟩ := write_lst (xs := xs) W h1 h3 h4.dropLast
  obtain ⟨v, hv, rv⟩ := h4.get hy
  exact ⟨a, vs, v, rfl, rfl, h3, by rw [h4.length]; exact hv, p _ _ q ρ _ _ x1 W1 (rv.ext W.sep x1)⟩
def dPopAt : DMt := fun d ds S R => ∃ l xs i k y, d = .loc l ∧ ds = [.int i] ∧ S[l]? = some (.lst xs) ∧ -(2 ^ 63) ≤ i ∧ i < 2 ^ 63 ∧ seqIndex? i xs.length = some k ∧ xs[k]? = some y ∧ R y (S.set l (.lst (xs.eraseIdx k)))
theorem md_popAt : MtR X "list.pop" (rMD X dPopAt) := MtR.imp mt_popAt fun x us H Q ⟨ρ, S, d, ds, R, W, r1, r2, ⟨l, xs, i, k, y, e1, e2, g, b1, b2, hk, hy, q⟩, p⟩ => by
  subst e1 e2
  obtain ⟨a, h1, rfl⟩ := r1.loc_of
  obtain ⟨u, rfl, ru⟩ := r2.one_of
  cases ru.int_of
  obtain ⟨vs, h3, h4⟩ := W.obj l a _ h1 g
  obtain ⟨x1, W1⟩ := write_lst (xs := xs) W h1 h3 (h4.eraseIdx k)
  obtain ⟨v, hv, rv⟩ := h4.get hy
  exact ⟨a, vs, i, k, v, rfl, rfl, h3, b1, b2, by rw [h4.length]; exact hk, hv, p _ _ q ρ _ _ x1 W1 (rv.ext W.sep x1)⟩
theorem VRs.reverse {K : PySem.W.Frag} : ∀ {ds : List D} {vs : List V}, VRs K ρ H ds vs → VRs K ρ H ds.reverse vs.reverse
  | [], vs, h => by
    cases h.nil_of
    exact .nil
  | d :: ds, vs, h => by
    unfold VRs at h
    obtain ⟨v, vr, rfl, h2, h3⟩ := h
    rw [List.reverse_cons, List.reverse_cons]
    exact (VRs.reverse h3).snoc h2
def dReverse : DMt := fun d ds S R => ∃ l xs, d = .loc l ∧ ds = [] ∧ S[l]? = some (.lst xs) ∧ R .non (S.set l (.lst xs.reverse))
theorem md_reverse : MtR X "list.reverse" (rMD X dReverse) := MtR.imp mt_reverse fun x us H Q ⟨ρ, S, d, ds, R, W, r1, r2, ⟨l, xs, e1, e2, g, q⟩, p⟩ => by
  subst e1 e2
  obtain ⟨a, h1, rfl⟩ := r1.loc_of
  cases r2.nil_of
  obtain ⟨vs, h3, h4⟩ := W.obj l a _ h1 g
  obtain ⟨x1, W1⟩ := write_lst (xs := xs) W h1 h3 h4.reverse
  exact ⟨a, vs, rfl, rfl, h3, p _ _ q ρ _ _ x1 W1 .non⟩
def dClear : DMt := fun d ds S R => ∃ l xs, d = .loc l ∧ ds = [] ∧ S[l]? = some (.lst xs) ∧ R .non (S.set l (.lst []))
theorem md_clear : MtR X "list.clear" (rMD X dClear) := MtR.imp mt_clear fun x us H Q ⟨ρ, S, d, ds, R, W, r1, r2, ⟨l, xs, e1, e2, g, q⟩, p⟩ => by
  subst e1 e2
  obtain ⟨a, h1, rfl⟩ := r1.loc_of
  cases r2.nil_of
  obtain ⟨vs, h3, h4⟩ := W.obj l a _ h1 g
  obtain ⟨x1, W1⟩ := write_lst (xs := xs) W h1 h3 .nil
  exact ⟨a, vs, rfl, rfl, h3, p _ _ q ρ _ _ x1 W1 .non⟩
/-- sep.join(xs) -/
def strsD : List D → Option (List Str)
  | [] => some []
  | .str x :: r => (strsD r).map (x :: ·)
  | _ :: _ => none
theorem strsD_ok : ∀ {ds : List D} {ys : List Str} {vs : List V}, strsD ds = some ys → VRs X.K ρ H ds vs → vs = ys.map V.str
  | [], ys, vs, e, h => by
    cases h.nil_of
    have e' : some [] = some ys := e
    cases e'
    rfl
  | d :: ds, ys, vs, e, h => by
    unfold VRs at h
    obtain ⟨v, vr, rfl, h1, h2⟩ := h
    cases d with
    | str x =>
      have e' : (strsD ds).map (x :: ·) = some ys := e
      cases e1 : strsD ds with
      | none =>
        rw [e1] at e'
        cases e'
      | some ys' =>
        rw [e1] at e'
        cases e'
        rw [strsD_ok e1 h2, h1.str_of]
        rfl
    | non => cases e
    | int _ => cases e
    | bl _ => cases e
    | tup _ => cases e
    | fls _ => cases e
    | loc _ => cases e
def dJoin : DMt := fun d ds S R => ∃ a e xs ys, d = .str a ∧ ds = [e] ∧ seqD S e = some xs ∧ strsD xs = some ys ∧ (ys.map (·.length)).sum + ys.length * a.length ≤ 16777216 ∧ R (.str (Txt.join a ys)) S
theorem md_join : MtR X "str.join" (rMD X dJoin) := MtR.imp mt_join fun x us H Q ⟨ρ, S, d, ds, R, W, r1, r2, ⟨a, e, xs, ys, e1, e2, g, g2, hz, q⟩, p⟩ => by
  subst e1 e2
  obtain ⟨v, rfl, rv⟩ := r2.one_of
  obtain ⟨b, vs, rfl, h1, h2⟩ := seqD_ok W rv g
  refine ⟨a, b, ys, r1.str_of, rfl, ?_, hz, p _ _ q ρ H _ (Ext.refl _ _) W .str⟩
  rw [← strsD_ok g2 h2]
  exact h1
/-- a text times a number -/
def repS (x : Str) (n : Nat) : Str := ⟨((List.replicate n x.cps.toList).flatten).toArray⟩
theorem foldl_app (x : Array Nat) : ∀ (n : Nat) (acc : Array Nat), (List.replicate n x).foldl (· ++ ·) acc = acc ++ ((List.replicate n x.toList).flatten).toArray
  | 0, acc => by simp
  | n + 1, acc => by
    rw [List.replicate_succ, List.foldl_cons, foldl_app x n, List.replicate_succ, List.flatten_cons]
    apply Array.ext'
    simp
def dMulS : DOp := fun d1 d2 S R => ∃ x n, d1 = .str x ∧ d2 = .int n ∧ 0 ≤ n ∧ n < 2 ^ 62 ∧ x.length * n.toNat ≤ sizeLine ∧ R (.str (repS x n.toNat)) S
theorem op_mulS : OpR X (binaryOp .Mult) (fun x y H Q => ∃ z n, x = .str z ∧ y = .int n ∧ 0 ≤ n ∧ n < 2 ^ 62 ∧ z.length * n.toNat ≤ sizeLine ∧ Q (.str (repS z n.toNat)) H) := by
  intro pins s σ H x y v u Q I rx ry ⟨z, n, e1, e2, h0, h1, hz, q⟩
  subst e1 e2
  obtain ⟨t, rfl⟩ := rx
  obtain ⟨t', rfl⟩ := ry
  have hsl := sizeLine_eq
  refine PySem.P.mul_str ?_ (fun _ _ => ?_) (fun _ _ => ?_) ?_
  · rw [decide_eq_false (by omega), decide_eq_false (by omega)]
    rfl
  · rename_i h2 h3
    intro h4
    have hn : 1 ≤ n := by omega
    have h5 : (z.length : Int) * n ≤ 16777216 := by
      have : (((z.length * n.toNat : Nat)) : Int) ≤ ((sizeLine : Nat) : Int) := Int.ofNat_le.mpr hz
      rw [Int.natCast_mul, Int.toNat_of_nonneg h0, hsl] at this
      exact this
    have h6 : (2 ^ 63 - 1 : Int) < (z.length : Int) * n := (Int.ediv_lt_iff_lt_mul (by omega)).mp h4
    omega
  · unfold PySem.Builtin.Str.tooLong
    exact decide_eq_false (by omega)
  · by_cases h2 : n < 1
    · rw [if_pos h2]
      have e : n = 0 := by omega
      subst e
      exact ⟨by decide, .str _, H, I.tok _, ⟨_, rfl⟩, q⟩
    · rw [if_neg h2]
      by_cases h3 : (n == 1 || z.length == 0) = true
      · rw [if_pos h3]
        have e : repS z n.toNat = z := by
          unfold repS
          rcases Bool.or_eq_true_iff.mp h3 with h4 | h4
          · have : n = 1 := by simpa using h4
            subst this
            simp [List.replicate]
          · have h5 : z.cps = #[] := by
              have : z.cps.size = 0 := by simpa [Str.length] using h4
              exact Array.eq_empty_of_size_eq_zero this
            obtain ⟨c⟩ := z
            simp only at h5
            subst h5
            simp
        rw [e] at q
        exact ⟨.str _, H, I, ⟨_, rfl⟩, q⟩
      · rw [if_neg h3]
        have e : (⟨(List.replicate n.toNat z.cps).foldl (· ++ ·) #[]⟩ : Str) = repS z n.toNat := by
          unfold repS
          rw [foldl_app]
          simp
        rw [e]
        refine ⟨?_, .str _, H, I.tok _, ⟨_, rfl⟩, q⟩
        have : (repS z n.toNat).length = z.length * n.toNat := by
          simp [repS, Str.length, Nat.mul_comm]
        omega
theorem od_mulS : OpR X (binaryOp .Mult) (rD X dMulS) := OpR.imp op_mulS fun x y H Q ⟨ρ, S, d1, d2, R, W, r1, r2, ⟨z, n, e1, e2, b1, b2, hz, q⟩, p⟩ => by
  subst e1 e2
  exact ⟨z, n, r1.str_of, r2.int_of, b1, b2, hz, p _ _ q ρ H _ (Ext.refl _ _) W .str⟩
def dMul : DOp := opOr dMulI (opOr dMulS dMulL)
theorem od_mul : OpR X (binaryOp .Mult) (rD X dMul) := OpD.or od_mulI (OpD.or od_mulS od_mulL)
/-- -x -/
def wNeg (we : WE) : WE := fun τ S R => we τ S fun d S1 => ∃ i, d = .int i ∧ R (.int (-i)) S1
theorem de_neg {pos : Pos} (he : PE X e (dE X we)) : PE X (.UnaryOp .USub e pos) (dE X (wNeg we)) := PE.imp (pe_un un_neg he) fun σ H Q ⟨ρ, τ, S, R, W, er, h, p⟩ => ⟨ρ, τ, S, _, W, er, h, fun d S1 ⟨i, e1, q⟩ ρ1 H1 v x1 W1 r => by
  subst e1
  exact ⟨i, r.int_of, p _ _ q ρ1 H1 _ x1 W1 .int⟩⟩
end

/-! ### in-place operators, chains as tests, targets of comprehensions -/
section
variable {X : Cx}
theorem oi_addI : OpR X (inplaceOp .Add) (rD X dAddI) := opD_int0 iop_add fun _ _ _ _ => .int
theorem oi_sub : OpR X (inplaceOp .Sub) (rD X dSub) := opD_int0 iop_sub fun _ _ _ _ => .int
theorem oi_addS : OpR X (inplaceOp .Add) (rD X dAddS) := OpR.imp iop_add_str fun x y H Q ⟨ρ, S, d1, d2, R, W, r1, r2, ⟨i, j, e1, e2, hz, q⟩, p⟩ => by
  subst e1 e2
  exact ⟨i, j, r1.str_of, r2.str_of, hz, p _ _ q ρ H _ (Ext.refl _ _) W .str⟩
def dIAdd : DOp := opOr dAddI dAddS
theorem oi_add : OpR X (inplaceOp .Add) (rD X dIAdd) := OpD.or oi_addI oi_addS
variable {a b c : Expr} {wa wb wc : WE} {pos : Pos}
theorem dt_chain {op op' : CmpOp} {o o' : DOp} (ho : OpR X (compareOp op) (rD X o)) (ho' : OpR X (compareOp op') (rD X o')) (ha : PE X a (dE X wa)) (hb : PE X b (dE X wb)) (hc : PE X c (dE X wc))
    (hm : lastMarks [op, op'] [b, c] = false := by with_unfolding_all rfl) : PT X (.Compare a [op, op'] [b, c] pos) (dT X (wTest (wChain o o' wa wb wc))) := PT.imp (pt_chain ho ho' ha hb hc hm) fun _ _ _ => test_pass fun _ _ _ => chain_pass
theorem de_chain {op op' : CmpOp} {o o' : DOp} (ho : OpR X (compareOp op) (rD X o)) (ho' : OpR X (compareOp op') (rD X o')) (ha : PE X a (dE X wa)) (hb : PE X b (dE X wb)) (hc : PE X c (dE X wc))
    (hm : lastMarks [op, op'] [b, c] = false := by with_unfolding_all rfl) : PE X (.Compare a [op, op'] [b, c] pos) (dE X (wChain o o' wa wb wc)) := PE.imp (pe_chain ho ho' ha hb hc hm) fun _ _ _ => chain_pass
theorem pg_nm {i : Nat} {x : Str} {pos : Pos} (hN : X.N.Nodup) (hi : X.N[i]? = some x := by rfl) (hx : Loc X.env.scope x := by first | exact Or.inl rfl | exact Or.inr rfl) (hf : X.fn x = true ∨ X.env.scope.names.lookup x = some .local := by first | exact .inl rfl | exact .inr rfl | assumption) : PG X (.Name x pos) (gName i) := pg_name hN hi hx hf
def dInB : DOp := opOr dInQ dInS
def dNotInB : DOp := opOr dNotInQ dNotInS
theorem od_inB (hu : X.A.units + 150 < cLine) : OpR X (compareOp .In) (rD X dInB) := OpD.or (od_inQ hu) od_inS
theorem od_notInB (hu : X.A.units + 150 < cLine) : OpR X (compareOp .NotIn) (rD X dNotInB) := OpD.or (od_notInQ hu) od_notInS
end

/-! ## defs -/
def startD (n : Nat) (ds : List D) : DEnv := ds.map some ++ List.replicate (n - ds.length) none
theorem er_start {K : PySem.W.Frag} {ρ : List Addr} {H : Hp} {ds : List D} {vs : List V} {N : List Str} (h : VRs K ρ H ds vs) (hl : ds.length ≤ N.length) : ER K ρ H (startD N.length ds) (L2.start N vs) := by
  unfold startD L2.start
  refine ⟨by simp [h.length], fun i d e => ?_⟩
  by_cases hi : i < ds.length
  · rw [List.getElem?_append_left (by simpa using hi), List.getElem?_map] at e
    cases q : ds[i]? with
    | none =>
      rw [q] at e
      cases e
    | some d' =>
      rw [q] at e
      cases e
      obtain ⟨v, h1, h2⟩ := h.get q
      refine ⟨v, ?_, h2⟩
      rw [List.getElem?_append_left (by simpa [h.length] using hi), List.getElem?_map, h1]
      rfl
  · rw [List.getElem?_append_right (by simpa using hi)] at e
    have := List.mem_of_getElem? e
    have := List.eq_of_mem_replicate this
    cases this
/-- what is wanted behind a def's body -/
abbrev endsD (R : DQ) : DEnds := { nx := fun _ S => R .non S, rt := R }
/-- a def of the text by its body (as Fun.ok over fn_of, where no value is being shown) -/
theorem Fun.okG {P : Program} {w : World} {K : PySem.W.Frag} {mg : Str → Option Value} {base : Heap} {x qual : Str} {st : Stmt} {f : Addr} {fd : FuncData} {N ps : List Str} {k : Nat} {sp : Sp} (F : Fun K x qual st f fd) (S : FnScope N ps (defScope st)) (len : ∀ vs H Q E, sp vs H Q E → vs.length = ps.length)
    (hbody : ∀ (cdv : Value) (A : Around) (outer : List Env) (s : Shared) (H : Hp) (vs : List V) (Q : VK) (E : XK), RoomG k (A.deeper (envOfC qual (defScope st) s.heap.objs.size f cdv)) → sp vs H Q E →
      ∃ t, PSs (cxOf CX0 P w K mg base N qual (defScope st) f cdv A outer s H E).nox (defBody st) t ∧ t { nx := fun _ H' => Q .non H', rt := Q } (L2.start N vs) H) : FnG P w K mg base CX0 (k + 1) f fd ps sp := by
  obtain ⟨oc, od, kV, doc, pm, an, cdv, ct, osl, rfl, lk, hcd⟩ := F.ex
  refine ⟨len, fun A outer s H args us vs Q E hr e0 hb r hsp => ?_⟩
  have hl := len _ _ _ _ hsp
  have KX : K.In s.heap := e0.mod.kin.keeps fun b o e => (e0.bs b o e).1
  have lim : s.heap.NoLimit := e0.mod.nolimit.keeps fun b o e => (e0.bs b o e).1
  have hkind : ∀ y ∈ ps.zip us, (defScope st).names.lookup y.1 = some .local ∨ ((defScope st).names.lookup y.1 = some .cell ∧ ((cellsFrom (s.heap.objs.size + 1) (defScope st).names []).lookup y.1).isSome = true) := fun ⟨n, v⟩ hy => by
    rcases S.par n (List.of_mem_zip hy).1 with q | q
    · exact .inl q
    · exact .inr ⟨q, PySem.W.cellsFrom_some _ _ _ (.inl q)⟩
  refine codeAny_call_function hr.room.depth (KX _ _ lk) rfl S.co S.gen rfl (PySem.W.codeRec_of KX hcd) (hb _ _ _ _ ?_)
  refine wpAny_newFunctionEnv_cells S.kind hkind fun env he s1 x => ?_
  subst he
  refine ⟨lim.keeps x.toInCall.keep, codeAny_func ?_⟩
  obtain ⟨t, ht0, hq⟩ := hbody cdv A outer s H vs Q E (hr.deeper _) hsp
  have ht := ht0.nox
  have I : Inv (cxOf CX0 P w K mg base N qual (defScope st) f cdv A outer s H E) [] (L2.start N vs) H s1 := inv_start S hr.room.hd e0 hl r x
  refine wpAny_mono (ht.run [] s1 (L2.start N vs) H _ I hq) (fun fl s' hs => ?_) fun e s' hs => hs
  have fin : ∀ {σ' : L2.St} {H' : Hp} {v : V} {u : Value}, Inv (cxOf CX0 P w K mg base N qual (defScope st) f cdv A outer s H E) [] σ' H' s' → RelV v u → Q v H' → CE outer P w H s Q u s' :=
    fun {σ' H' v u} J rv q => ⟨v, H', J.os, J.bare, J.base, J.hok, rv, q⟩
  cases fl with
  | ret u =>
    obtain ⟨v, σ', H', J, rv, q⟩ := hs
    exact fin J rv q
  | next =>
    obtain ⟨σ', H', J, q⟩ := hs
    exact fin (v := V.non) (u := Value.none) J rfl q
  | brk =>
    obtain ⟨_, _, _, q⟩ := hs
    exact False.elim q
  | cont =>
    obtain ⟨_, _, _, q⟩ := hs
    exact False.elim q
theorem fn_ok {P : Program} {w : World} {K : PySem.W.Frag} {mg : Str → Option Value} {base : Heap} {x qual : Str} {st : Stmt} {f : Addr} {fd : FuncData} {N ps : List Str} {k : Nat} {sp : DSp} {ws : WS} (F : Fun K x qual st f fd) (Sc : FnScope N ps (defScope st))
    (hps : ps.length ≤ N.length) (hlen : ∀ ds S R, sp ds S R → ds.length = ps.length)
    (body : ∀ (cdv : Value) (A : Around) (outer : List Env) (s : Shared) (H : Hp) (E : XK), RoomG k (A.deeper (envOfC qual (defScope st) s.heap.objs.size f cdv)) →
      PSs (cxOf CX0 P w K mg base N qual (defScope st) f cdv A outer s H E).nox (defBody st) (dS (cxOf CX0 P w K mg base N qual (defScope st) f cdv A outer s H E).nox ws))
    (sem : ∀ ds S R, sp ds S R → ws (endsD R) (startD N.length ds) S) : FnG P w K mg base CX0 (k + 1) f fd ps (spD w K mg sp) := by
  refine Fun.okG F Sc (fun vs H Q E ⟨ρ, S, ds, R, W, r, h, _⟩ => by rw [r.length]; exact hlen _ _ _ h) (fun cdv A outer s H vs Q E hr ⟨ρ, S, ds, R, W, r, h, p⟩ => ?_)
  refine ⟨_, body cdv A outer s H E hr, ρ, startD N.length ds, S, endsD R, W, er_start r (by rw [hlen _ _ _ h]; exact hps), sem _ _ _ h, fun τ S' q ρ' H' σ x1 W1 er => ?_, fun d S' q ρ' H' v x1 W1 rv => ?_, fun τ S' q => q.elim, fun τ S' q => q.elim⟩
  · exact p _ _ q ρ' H' _ x1 W1 .non
  · exact p _ _ q ρ' H' v x1 W1 rv
theorem fn_mk {P : Program} {w : World} {K : PySem.W.Frag} {mg : Str → Option Value} {base : Heap} {x qual : Str} {st : Stmt} {f : Addr} {fd : FuncData} {N ps : List Str} {k : Nat} {sp : DSp} {ws : WS} (F : Fun K x qual st f fd) (Sc : FnScope N ps (defScope st))
    (hf : mg x = some (.ref f)) (hb : Binds K fd ps []) (hps : ps.length ≤ N.length) (hlen : ∀ ds S R, sp ds S R → ds.length = ps.length)
    (body : ∀ (cdv : Value) (A : Around) (outer : List Env) (s : Shared) (H : Hp) (E : XK), RoomG k (A.deeper (envOfC qual (defScope st) s.heap.objs.size f cdv)) →
      PSs (cxOf CX0 P w K mg base N qual (defScope st) f cdv A outer s H E).nox (defBody st) (dS (cxOf CX0 P w K mg base N qual (defScope st) f cdv A outer s H E).nox ws))
    (sem : ∀ ds S R, sp ds S R → ws (endsD R) (startD N.length ds) S) : FnD P w K mg base (k + 1) x sp := ⟨f, fd, ps, fn_ok F Sc hps hlen body sem, hf, F.kp, hb⟩
theorem room_units {k : Nat} {A : Around} (r : RoomG k A) : A.units + 150 < cLine := by have := r.room.un; omega

/-! ## the law's end -/
/-- the script, of any ints -/
def scriptD (ns : List Int) : D := .fls (ns.map D.int)
theorem vrs_ints {K : PySem.W.Frag} {ρ : List Addr} {H : Hp} : ∀ ns : List Int, VRs K ρ H (ns.map D.int) (ns.map V.int)
  | [] => .nil
  | n :: ns => .cons .int (vrs_ints ns)
theorem wd_nil {w : World} {K : PySem.W.Frag} {mg : Str → Option Value} {H : Hp} : Wd w K mg [] [] H := ⟨rfl, List.nodup_nil, fun l a o h => by simp at h⟩
/-- nothing is tracked but the script (as law_call, where no value is being shown) -/
theorem law_callG {P : Program} {w : World} {K : PySem.W.Frag} {mg mb : Str → Option Value} {CX : CXT} {k : Nat} {fa a : Addr} {fd : FuncData} {x : Str} {sp : Sp} {s₁ : Shared} {vs : List Value} {ns : List Int}
    (KX : K.In s₁.heap) (hns : s₁.heap.Ns mainGlobals mg) (hb : s₁.heap.Ns builtinsNs mb) (hbb : ∀ x : Str, x ≠ "__name__" → mb x = bootBuiltins x) (hlim : s₁.heap.NoLimit) (hg : s₁.gens = #[])
    (ha : s₁.heap.get? a = some { cls := .type "list", data := .seq vs.toArray }) (hi : IntsAre vs ns) (hl : ns.length ≤ sizeLine) (hr : RoomG k callerA)
    (F : ∀ base : Heap, K.In base → base.Ns mainGlobals mg → FnG P w K mg base CX k fa fd [x] sp) (hbind : ∀ (s : Shared) (u : Value), BindsTo s fd ⟨[u], []⟩ [(x, u)])
    (hsp : ∀ H : Hp, Only H → SqL K H a (ns.map V.int) → sp [.ref a] H (fun v _ => v = .bl true) fun _ _ _ => False)
    (hCX : ∀ H e s', CX [] H s₁ (fun _ _ _ => False) e s' → False) :
    codeAny (model P w) callerA (.call (.ref fa) ⟨[.ref a], []⟩) (fun r s' => r = .ok (.ret (.bool true)) ∧ OldK s₁.heap s'.heap ∧ s'.os = s₁.os ∧ AllBare s'.gens) s₁ := by
  have rv := vals_ints hi
  have lenV := hi.length
  have core : ∀ H : Hp, Only H → SqL K H a (ns.map V.int) → HOk P w H s₁.heap → (∀ b, H b ≠ none → b = a) → (H a ≠ none → K.lookup a = none) →
      codeAny (model P w) callerA (.call (.ref fa) ⟨[.ref a], []⟩) (fun r s' => r = .ok (.ret (.bool true)) ∧ OldK s₁.heap s'.heap ∧ s'.os = s₁.os ∧ AllBare s'.gens) s₁ := by
    intro H hO hS hok hA hK
    have tracked : ∀ {b : Addr}, H b ≠ none → b = a := fun {b} h => hA b h
    have base_of : ∀ {b : Addr} {o : Obj}, s₁.heap.get? b = some o → H b = none → (hidT s₁.heap H).get? b = some o := fun e n => hidT_get e n
    have noA : ∀ {b : Addr} {o : Obj} {es : Array DictEntry} {ep : Nat}, s₁.heap.get? b = some o → o.data = .dict es ep → H b = none := fun {b o es ep} e d => by
      by_cases q : H b = none
      · exact q
      · have e' := tracked q
        subst e'
        rw [ha] at e
        cases e
        cases (show Data.seq vs.toArray _ = Data.dict es ep from d)
    have nsK : ∀ {b : Addr} {m : Str → Option Value}, s₁.heap.Ns b m → (hidT s₁.heap H).Ns b m := fun {b m} ⟨o, es, ep, e, d, r⟩ => ⟨o, es, ep, base_of e (noA e d), d, r⟩
    have hKb : K.In (hidT s₁.heap H) := fun b o e => base_of (KX b o e) (by
      by_cases q : H b = none
      · exact q
      · have e' := tracked q
        subst e'
        rw [hK q] at e
        cases e)
    have hM : Mod K mg (hidT s₁.heap H) := ⟨hKb, nsK hns, ⟨mb, nsK hb, hbb⟩, let ⟨mc, h1, h2⟩ := hlim; ⟨mc, nsK h1, h2⟩⟩
    have e0 : Env0 P w K mg (hidT s₁.heap H) callerA [] s₁ H := ⟨rfl, hM, fun b o e => of_hidT e, Nat.le_of_eq (hidT_size _ _), trivial, fun b hb => absurd (show b ∈ ([] : List Addr) from hb) (by simp), hok, .of_eq hg⟩
    refine codeAny_mono ((F _ hKb (nsK hns)).run callerA [] s₁ H ⟨[.ref a], []⟩ [.ref a] [.ref a] _ _ hr e0 (hbind s₁ (.ref a)) (.cons rfl .nil) (hsp H hO hS)) fun r s' h => ?_
    cases r with
    | error e => exact (hCX H e s' h).elim
    | ok fl =>
      cases fl with
      | next => exact False.elim h
      | brk => exact False.elim h
      | cont => exact False.elim h
      | ret u =>
        obtain ⟨v, H', os, bare, un, hok', r', q⟩ := h
        obtain rfl : v = .bl true := q
        obtain rfl : u = Value.bool true := r'
        refine ⟨rfl, OldK.of_keep fun b o e => ?_, os, bare⟩
        by_cases q : H b = none
        · exact un.keep b o e q (by intro z; exact absurd (show b ∈ ([] : List Addr) from z) (by simp)) (by simp)
        · rcases hO b with z | ⟨ob, xs, z⟩
          · exact absurd z q
          · obtain ⟨e1, _⟩ := hok b _ z
            obtain ⟨e2, _⟩ := hok' b _ (un.frzs b ob _ z)
            rw [e] at e1
            cases e1
            exact e2
  cases hk : K.lookup a with
  | some o =>
    have e := KX a o hk
    rw [ha] at e
    cases e
    refine core (fun _ => none) (fun _ => .inl rfl) (.inr ⟨_, vs.toArray, _, hk, rfl, rfl, rfl, by rw [List.size_toArray, lenV]; exact hl, by simpa using rv⟩) (fun b u z => by cases (show (none : Option HO) = some u from z)) (fun b z => absurd rfl z) fun z => absurd rfl z
  | none =>
    refine core (fun b => if b = a then some (.frz { cls := .type "list", data := .seq vs.toArray } (.lst (ns.map V.int))) else none) (fun b => ?_) (.inl (.inr ⟨{ cls := .type "list", data := .seq vs.toArray }, if_pos rfl⟩)) (fun b u z => ?_) (fun b z => ?_) fun _ => hk
    · by_cases hb : b = a
      · exact .inr ⟨_, _, if_pos hb⟩
      · exact .inl (if_neg hb)
    · by_cases hb : b = a
      · have z' := (if_pos hb).symm.trans z
        cases z'
        subst hb
        exact ⟨ha, by rw [List.length_map]; exact hl, vs, _, rv, ha⟩
      · have z' := (if_neg hb).symm.trans z
        cases z'
    · by_cases hb : b = a
      · exact hb
      · exact absurd (if_neg hb) z
theorem walk_ofG {l : PySem.W.OpenLaw} {n k : Nat} {q : Program} {loose : List Str} {XP : (Str → Option Value) → Heap → Prop} {YP : World → Heap → Prop} {d : DefRec} {K : Params → PySem.W.Frag} {CX : World → CXT} {sp : World → Sp} {x : Str}
    (hn : l.most = some n) (hn2 : n ≤ sizeLine) (hdf : d.params.defaults = []) (hr : RoomG k callerA)
    (hY : ∀ (w : World) (h : Heap), YP w h → (K w.params).In h)
    (F : ∀ (w : World) (mg : Str → Option Value) (fa : Addr) (h : Heap), (K w.params).In h → h.Ns mainGlobals mg → mg d.name = some (.ref fa) →
      ∃ fd : FuncData, (∀ (s : Shared) (u : Value), BindsTo s fd ⟨[u], []⟩ [(x, u)]) ∧
        ∀ base : Heap, (K w.params).In base → base.Ns mainGlobals mg → FnG l.prog w (K w.params) mg base (CX w) k fa fd [x] (sp w))
    (hsp : ∀ (w : World) (H : Hp) (a : Addr) (ns : List Int), ns.length ≤ n → Only H → SqL (K w.params) H a (ns.map V.int) → sp w [.ref a] H (fun v _ => v = .bl true) fun _ _ _ => False)
    (hCX : ∀ (w : World) (H : Hp) (s : Shared) (e : Value) (s' : Shared), CX w [] H s (fun _ _ _ => False) e s' → False) :
    PySem.W.WalkO q loose XP YP l.row.toRowW d [] (fun f vs => PySem.call f vs) := by
  refine Att.attach_call hn hdf fun w s₀ s₁ mg mb fa o pm cd doc a vs ns G Y ho hd hcd hmg hobj hints hlen hg => ?_
  have KX := hY w _ Y
  obtain ⟨fd, hb, hF⟩ := F w mg fa _ KX G.T.g hmg
  exact law_callG KX G.T.g G.T.b G.T.builtins G.T.nolimit hg hobj hints (Nat.le_trans hlen hn2) hr hF hb (fun H hO hS => hsp w H a ns hlen hO hS) fun H e s' => hCX w H s₁ e s'
theorem walk_mk {l : PySem.W.OpenLaw} {n k : Nat} {q : Program} {loose : List Str} {XP : (Str → Option Value) → Heap → Prop} {YP : World → Heap → Prop} {d : DefRec} {K : Params → PySem.W.Frag} {sp : DSp} {x : Str}
    (hn : l.most = some n) (hn2 : n ≤ sizeLine) (hdf : d.params.defaults = []) (hr : RoomG k callerA)
    (hY : ∀ (w : World) (h : Heap), YP w h → (K w.params).In h)
    (F : ∀ (w : World) (mg : Str → Option Value) (fa : Addr) (h : Heap), (K w.params).In h → h.Ns mainGlobals mg → mg d.name = some (.ref fa) →
      ∃ fd : FuncData, (∀ (s : Shared) (u : Value), BindsTo s fd ⟨[u], []⟩ [(x, u)]) ∧
        ∀ base : Heap, (K w.params).In base → base.Ns mainGlobals mg → FnG l.prog w (K w.params) mg base CX0 k fa fd [x] (spD w (K w.params) mg sp))
    (hsp : ∀ ns : List Int, ns.length ≤ n → sp [scriptD ns] [] fun v _ => v = .bl true) :
    PySem.W.WalkO q loose XP YP l.row.toRowW d [] (fun f vs => PySem.call f vs) := by
  refine walk_ofG (n := n) (k := k) (x := x) (CX := fun _ => CX0) (sp := fun w => fun vs H Q E => ∀ mg, spD w (K w.params) mg sp vs H Q E) hn hn2 hdf hr hY (fun w mg fa h h1 h2 h3 => ?_) (fun w H a ns hl hO hS mg => ?_) fun _ _ _ _ _ z => z
  · obtain ⟨fd, hb, hF⟩ := F w mg fa h h1 h2 h3
    exact ⟨fd, hb, fun base b1 b2 => (hF base b1 b2).imp fun vs H Q E hh => hh mg⟩
  · refine ⟨[], [], [scriptD ns], _, wd_nil, .cons (.fls ?_ (vrs_ints ns)) .nil, hsp ns hl, fun d S' e ρ' H' v x1 W1 rv => ?_⟩
    · rcases hS with (h1 | ⟨o, h1⟩) | h1
      · rcases hO a with h2 | ⟨o, xs, h2⟩
        · rw [h2] at h1
          cases h1
        · rw [h2] at h1
          cases h1
      · exact .inl ⟨o, h1⟩
      · exact .inr (.inr h1)
    · subst e
      exact rv.bl_of
end Dl

namespace Dl
open PySem L2

/-! ## dicts of any keys: looking up -/
/-- the entries bear the keys ks -/
structure KsAt (w : World) (h : Heap) (es : Array DictEntry) (ks : List NestedKey) : Prop where
  len : es.size = ks.length
  at_ : ∀ (j : Nat) (e : DictEntry), es[j]? = some e → ∃ k, ks[j]? = some k ∧ NestedIs h k e.key ∧ k.depth ≤ 8 ∧ e.hash = k.hash w
  nd : ks.Nodup
theorem KsAt.one {w : World} {h : Heap} {es : Array DictEntry} {ks : List NestedKey} (K : KsAt w h es ks) {i j : Nat} {k : NestedKey} (hi : ks[i]? = some k) (hj : ks[j]? = some k) : i = j :=
  (List.getElem?_inj (List.getElem?_eq_some_iff.mp hi).1 K.nd).mp (hi.trans hj.symm)
theorem KsAt.here {w : World} {h : Heap} {es : Array DictEntry} {ks : List NestedKey} (K : KsAt w h es ks) {j : Nat} {k : NestedKey} (hj : ks[j]? = some k) : ∃ e, es[j]? = some e ∧ NestedIs h k e.key ∧ k.depth ≤ 8 ∧ e.hash = k.hash w := by
  have h1 : j < es.size := by rw [K.len]; exact (List.getElem?_eq_some_iff.mp hj).1
  have h2 : es[j]? = some es[j] := Array.getElem?_eq_getElem h1
  obtain ⟨k', h3, h4⟩ := K.at_ j _ h2
  rw [hj] at h3
  cases h3
  exact ⟨_, h2, h4⟩
section
variable {prog : Program} {w : World} {A : Around} {E : Value → Shared → Prop} {s : Shared}
theorem nd_quiet {k : NestedKey} {v : Value} {vs : List Value} {Q : Bool → Shared → Prop} (h1 : NestedIs s.heap k v ∧ k.depth ≤ 8) (h2 : ∀ u ∈ vs, ∃ k', NestedIs s.heap k' u ∧ k'.depth ≤ 8) (q : Q false s) :
    wpAny (model prog w) A (tableMayTell v vs) Q E s := by
  unfold tableMayTell
  by_cases he : vs.isEmpty = true
  · rw [if_pos he]
    exact wpAny_pure q
  · rw [if_neg he]
    refine wpAny_bind (quiet_key k v 8 s h1.1 h1.2 _ _ _ ?_)
    simp only [Bool.not_true, Bool.false_eq_true, if_false]
    refine wpAny_bind (wpAny_forIn_list _ (fun r b s' => (s' = s ∧ b = (none, ())) ∧ ∀ u ∈ r, ∃ k', NestedIs s.heap k' u ∧ k'.depth ≤ 8) _ ?_ ?_ _ _ ⟨⟨rfl, rfl⟩, h2⟩)
    · rintro u r b s' ⟨⟨rfl, rfl⟩, hr⟩
      obtain ⟨k', h3, h4⟩ := hr u List.mem_cons_self
      refine wpAny_bind (quiet_key k' u 8 _ h3 h4 _ _ _ ?_)
      simp only [Bool.not_true, Bool.false_eq_true, if_false]
      exact wpAny_pure ⟨⟨rfl, rfl⟩, fun z hz => hr z (List.mem_cons_of_mem _ hz)⟩
    · rintro b s' ⟨⟨rfl, rfl⟩, _⟩
      exact wpAny_pure q

/-- what the search tells -/
def Found (ks : List NestedKey) (k : NestedKey) (Q : Option Nat → Shared → Prop) (s : Shared) : Prop := (k ∉ ks → Q none s) ∧ ∀ j, ks[j]? = some k → Q (some j) s
/-- the places that are left, in the search for k -/
structure Left (es : Array DictEntry) (ks : List NestedKey) (k : NestedKey) (rest : List Nat) (hit : Option Nat) : Prop where
  lt : ∀ i ∈ rest, i < es.size
  nd : rest.Nodup
  all : ∀ j, ks[j]? = some k → j ∈ rest ∨ hit = some j
  hit : ∀ j, hit = some j → ks[j]? = some k ∧ j ∉ rest
theorem Left.start {es : Array DictEntry} {ks : List NestedKey} {k : NestedKey} (K : KsAt w s.heap es ks) : Left es ks k (placesWithHash es.size (fun i => es[i]?.map (·.hash)) (k.hash w)) none where
  lt := fun i hi => by
    unfold placesWithHash at hi
    exact List.mem_range.mp (List.mem_filter.mp hi).1
  nd := by
    unfold placesWithHash
    exact List.Pairwise.filter _ List.nodup_range
  all := fun j hj => .inl (by
    obtain ⟨e, h1, _, _, h4⟩ := K.here hj
    unfold placesWithHash
    refine List.mem_filter.mpr ⟨List.mem_range.mpr ?_, ?_⟩
    · rcases Nat.lt_or_ge j es.size with q | q
      · exact q
      · rw [Array.getElem?_eq_none q] at h1
        cases h1
    · simp only [h1, Option.map_some, h4, beq_self_eq_true])
  hit := fun j q => by cases q
theorem Left.next {es : Array DictEntry} {ks : List NestedKey} {k : NestedKey} {i : Nat} {rest : List Nat} {hit : Option Nat} (L : Left es ks k (i :: rest) hit) (h : ks[i]? ≠ some k) : Left es ks k rest hit where
  lt := fun j hj => L.lt j (List.mem_cons_of_mem _ hj)
  nd := (List.nodup_cons.mp L.nd).2
  all := fun j hj => by
    rcases L.all j hj with q | q
    · rcases List.mem_cons.mp q with e | q
      · subst e
        exact absurd hj h
      · exact .inl q
    · exact .inr q
  hit := fun j q => ⟨(L.hit j q).1, fun hj => (L.hit j q).2 (List.mem_cons_of_mem _ hj)⟩
theorem Left.no {es : Array DictEntry} {ks : List NestedKey} {k : NestedKey} {i : Nat} {rest : List Nat} {hit : Option Nat} (L : Left es ks k (i :: rest) hit) (K : KsAt w s.heap es ks) (h : ks[i]? = some k) : hit = none := by
  cases e : hit with
  | none => rfl
  | some j =>
    obtain ⟨h1, h2⟩ := L.hit j e
    cases K.one h h1
    exact absurd List.mem_cons_self h2
theorem Left.took {es : Array DictEntry} {ks : List NestedKey} {k : NestedKey} {i : Nat} {rest : List Nat} {hit : Option Nat} (L : Left es ks k (i :: rest) hit) (K : KsAt w s.heap es ks) (h : ks[i]? = some k) : Left es ks k rest (some i) where
  lt := fun j hj => L.lt j (List.mem_cons_of_mem _ hj)
  nd := (List.nodup_cons.mp L.nd).2
  all := fun j hj => .inr (by rw [K.one hj h])
  hit := fun j q => by
    cases q
    exact ⟨h, (List.nodup_cons.mp L.nd).1⟩
theorem Left.told {es : Array DictEntry} {ks : List NestedKey} {k : NestedKey} {hit : Option Nat} {Q : Option Nat → Shared → Prop} (L : Left es ks k [] hit) (F : Found ks k Q s) : Q hit s := by
  cases e : hit with
  | none =>
    refine F.1 fun hk => ?_
    obtain ⟨j, hj⟩ := List.mem_iff_getElem?.mp hk
    rcases L.all j hj with q | q
    · cases q
    · rw [e] at q
      cases q
  | some j => exact F.2 j (L.hit j e).1
theorem nd_find {d : Addr} {o : Obj} {es : Array DictEntry} {ep : Nat} {ks : List NestedKey} {k : NestedKey} {v : Value} {Q : Option Nat → Shared → Prop} (hu : A.units + 8 < cLine) (hk : NestedIs s.heap k v) (hd8 : k.depth ≤ 8)
    (ho : s.heap.get? d = some o) (hd : o.data = .dict es ep) (K : KsAt w s.heap es ks) (F : Found ks k Q s) : wpAny (model prog w) A (dictFind d v (k.hash w)) Q E s := by
  -- one look at a place
  have look : ∀ (i : Nat) (e : DictEntry) (k' : NestedKey), es[i]? = some e → ks[i]? = some k' → NestedIs s.heap k' e.key → e.hash = k'.hash w → ∀ (q : Bool → Shared → Prop), q (decide (k' = k)) s → wpAny (model prog w) A (eqBool e.key v) q E s :=
    fun i e k' h1 h2 h3 h4 q hq => eqAt_key k' k A s _ _ h3 hk (by omega) _ _ _ _ (by rw [← NestedKey.decide_eq]; exact hq)
  -- the search among keys that are carried by value
  have plain : wpAny (model prog w) A (dictWalkPlain d v (k.hash w) es (placesWithHash es.size (fun i => es[i]?.map (·.hash)) (k.hash w))) Q E s := by
    refine wpAny_bind (wpAny_forIn_list _ (fun r b s' => s' = s ∧ b = (none, ()) ∧ Left es ks k r none) _ ?_ ?_ _ _ ⟨rfl, rfl, .start K⟩)
    · rintro i r b s' ⟨rfl, rfl, L⟩
      have hi := L.lt i List.mem_cons_self
      have he : es[i]? = some es[i] := Array.getElem?_eq_getElem hi
      obtain ⟨k', h1, h2, h3, h4⟩ := K.at_ i _ he
      simp only [he]
      by_cases hh : (es[i].hash == k.hash w) = true
      · rw [if_pos hh]
        refine wpAny_bind (wpAny_dictEpoch ho hd (wpAny_bind (look i _ k' he h1 h2 h4 _ (wpAny_bind (wpAny_dictEpoch ho hd ?_)))))
        rw [if_neg (by simp)]
        by_cases hkk : k' = k
        · subst hkk
          rw [decide_eq_true rfl]
          exact wpAny_bind (wpAny_rule (wpAny_pure (wpAny_pure (F.2 i h1))))
        · rw [decide_eq_false hkk]
          refine wpAny_bind (wpAny_rule (wpAny_pure ⟨rfl, rfl, L.next fun q => hkk ?_⟩))
          rw [h1] at q
          exact Option.some.inj q
      · rw [if_neg hh]
        refine wpAny_pure ⟨rfl, rfl, L.next fun q => hh ?_⟩
        rw [h1] at q
        cases q
        rw [h4, beq_self_eq_true]
    · rintro b s' ⟨rfl, rfl, L⟩
      exact wpAny_pure (L.told F)
  -- the search in general
  unfold dictFind
  try with_reducible refine wpAny_holding ?_
  refine wpAny_bind (wpAny_dictEntries ho hd ?_)
  dsimp only
  have hq : ∀ u ∈ (placesWithHash es.size (fun i => es[i]?.map (·.hash)) (k.hash w)).filterMap (fun i => es[i]?.map (·.key)), ∃ k', NestedIs s.heap k' u ∧ k'.depth ≤ 8 := by
    intro u hm
    obtain ⟨i, _, hi⟩ := List.mem_filterMap.mp hm
    cases he : es[i]? with
    | none =>
      rw [he] at hi
      cases hi
    | some e =>
      rw [he] at hi
      cases hi
      obtain ⟨k', _, h2, h3, _⟩ := K.at_ i e he
      exact ⟨k', h2, h3⟩
  have str : ∀ (x : Str) (t : Tok), v = .str x t → wpAny (model prog w) A (foundByValue d v es x) Q E s := by
    rintro x t rfl
    have ek : k = .text x := by
      cases hk
      rfl
    subst ek
    unfold foundByValue
    cases hf : es.findIdx? (fun e => e.key.isStr x) with
    | none =>
      refine wpAny_pure (F.1 fun hm => ?_)
      obtain ⟨j, hj⟩ := List.mem_iff_getElem?.mp hm
      obtain ⟨e, h1, h2, _⟩ := K.here hj
      have h3 := Array.findIdx?_eq_none_iff.mp hf e (Array.mem_of_getElem? h1)
      cases ee : e.key <;> rw [ee] at h2 <;> cases h2
      rw [ee] at h3
      simp [Value.isStr] at h3
    | some i =>
      obtain ⟨hi, h2, _⟩ := Array.findIdx?_eq_some_iff_getElem.mp hf
      have he : es[i]? = some es[i] := Array.getElem?_eq_getElem hi
      obtain ⟨k', h3, h4, h5, h6⟩ := K.at_ i _ he
      have hkk : k' = .text x := by
        cases ee : es[i].key <;> rw [ee] at h2 h4 <;> simp [Value.isStr] at h2
        subst h2
        cases h4
        rfl
      subst hkk
      simp only [he]
      refine wpAny_bind (wpAny_dictEpoch ho hd (wpAny_bind (look i _ _ he h3 h4 h6 _ (wpAny_bind (wpAny_dictEpoch ho hd ?_)))))
      rw [if_neg (by simp), decide_eq_true rfl]
      exact wpAny_bind (wpAny_rule (wpAny_pure (F.2 i h3)))
  have any : ∀ a, v = .ref a → ¬ (es.any fun e => e.key == v && e.hash != k.hash w) = true := by
    rintro a rfl
    rw [← Array.any_toList, List.any_eq_true]
    rintro ⟨e, hin, hc⟩
    obtain ⟨j, hj⟩ := List.mem_iff_getElem?.mp hin
    rw [Array.getElem?_toList] at hj
    obtain ⟨k', _, h2, _, h4⟩ := K.at_ j e hj
    simp only [Bool.and_eq_true, beq_iff_eq, bne_iff_ne, ne_eq] at hc
    rw [hc.1] at h2
    exact hc.2 (by rw [h4, NestedIs.inj _ _ _ h2 hk])
  split
  · rename_i x t
    by_cases hs : (es.all fun e => isExactStrKey e.key) = true
    · rw [if_pos hs]
      exact str x t rfl
    · rw [if_neg hs]
      by_cases hc : (.str x t :: (placesWithHash es.size (fun i => es[i]?.map (·.hash)) (k.hash w)).filterMap (fun i => es[i]?.map (·.key))).all carriedByValue = true
      · rw [if_pos hc]
        exact plain
      · rw [if_neg hc]
        dsimp only
        by_cases hs1 : ((placesWithHash es.size (fun i => es[i]?.map (·.hash)) (k.hash w)).filterMap (fun i => es[i]?.map (·.key)) == [.str x t]) = true
        · rw [if_pos hs1]
          refine wpAny_bind (wpAny_pure ?_)
          rw [if_neg (by simp)]
          refine wpAny_bind (wpAny_forIn_list _ (fun r b s' => s' = s ∧ b.1 = none ∧ Left es ks k r b.2) _ ?_ ?_ _ _ ⟨rfl, rfl, .start K⟩)
          · rintro i r ⟨b1, b2⟩ s' ⟨rfl, rfl, L⟩
            have hi := L.lt i List.mem_cons_self
            have he : es[i]? = some es[i] := Array.getElem?_eq_getElem hi
            obtain ⟨k', h1, h2, h3, h4⟩ := K.at_ i _ he
            simp only [he]
            by_cases hh : (es[i].hash == k.hash w) = true
            · rw [if_pos hh]
              refine wpAny_bind (wpAny_dictEpoch ho hd (wpAny_bind (look i _ k' he h1 h2 h4 _ (wpAny_bind (wpAny_dictEpoch ho hd ?_)))))
              rw [if_neg (by simp)]
              by_cases hkk : k' = k
              · subst hkk
                cases (show b2 = none from L.no K h1)
                simp only [decide_eq_true, if_true, Option.isSome_none, Bool.false_eq_true, if_false]
                refine wpAny_bind (wpAny_rule ?_)
                split
                · exact wpAny_pure (wpAny_pure (F.2 i h1))
                · exact wpAny_pure ⟨rfl, rfl, L.took K h1⟩
              · simp only [decide_eq_false hkk, Bool.false_and, Bool.false_eq_true, if_false]
                refine wpAny_bind (wpAny_rule (wpAny_pure ⟨rfl, rfl, L.next fun q => hkk ?_⟩))
                rw [h1] at q
                exact Option.some.inj q
            · rw [if_neg hh]
              refine wpAny_pure ⟨rfl, rfl, L.next fun q => hh ?_⟩
              rw [h1] at q
              cases q
              rw [h4, beq_self_eq_true]
          · rintro ⟨b1, b2⟩ s' ⟨rfl, rfl, L⟩
            exact wpAny_pure (L.told F)
        · rw [if_neg hs1]
          refine wpAny_bind (nd_quiet ⟨hk, hd8⟩ hq ?_)
          rw [if_neg (by simp)]
          refine wpAny_bind (wpAny_forIn_list _ (fun r b s' => s' = s ∧ b.1 = none ∧ Left es ks k r b.2) _ ?_ ?_ _ _ ⟨rfl, rfl, .start K⟩)
          · rintro i r ⟨b1, b2⟩ s' ⟨rfl, rfl, L⟩
            have hi := L.lt i List.mem_cons_self
            have he : es[i]? = some es[i] := Array.getElem?_eq_getElem hi
            obtain ⟨k', h1, h2, h3, h4⟩ := K.at_ i _ he
            simp only [he]
            by_cases hh : (es[i].hash == k.hash w) = true
            · rw [if_pos hh]
              refine wpAny_bind (wpAny_dictEpoch ho hd (wpAny_bind (look i _ k' he h1 h2 h4 _ (wpAny_bind (wpAny_dictEpoch ho hd ?_)))))
              rw [if_neg (by simp)]
              by_cases hkk : k' = k
              · subst hkk
                cases (show b2 = none from L.no K h1)
                simp only [decide_eq_true, if_true, Option.isSome_none, Bool.false_eq_true, if_false]
                refine wpAny_bind (wpAny_rule ?_)
                split
                · exact wpAny_pure (wpAny_pure (F.2 i h1))
                · exact wpAny_pure ⟨rfl, rfl, L.took K h1⟩
              · simp only [decide_eq_false hkk, Bool.false_and, Bool.false_eq_true, if_false]
                refine wpAny_bind (wpAny_rule (wpAny_pure ⟨rfl, rfl, L.next fun q => hkk ?_⟩))
                rw [h1] at q
                exact Option.some.inj q
            · rw [if_neg hh]
              refine wpAny_pure ⟨rfl, rfl, L.next fun q => hh ?_⟩
              rw [h1] at q
              cases q
              rw [h4, beq_self_eq_true]
          · rintro ⟨b1, b2⟩ s' ⟨rfl, rfl, L⟩
            exact wpAny_pure (L.told F)
  · by_cases hc : (v :: (placesWithHash es.size (fun i => es[i]?.map (·.hash)) (k.hash w)).filterMap (fun i => es[i]?.map (·.key))).all carriedByValue = true
    · rw [if_pos hc]
      exact plain
    · rw [if_neg hc]
      split
      · rename_i a _
        rw [if_neg (any _ rfl)]
        by_cases hs1 : ((placesWithHash es.size (fun i => es[i]?.map (·.hash)) (k.hash w)).filterMap (fun i => es[i]?.map (·.key)) == [.ref a]) = true
        · rw [if_pos hs1]
          refine wpAny_bind (wpAny_pure ?_)
          rw [if_neg (by simp)]
          refine wpAny_bind (wpAny_forIn_list _ (fun r b s' => s' = s ∧ b.1 = none ∧ Left es ks k r b.2) _ ?_ ?_ _ _ ⟨rfl, rfl, .start K⟩)
          · rintro i r ⟨b1, b2⟩ s' ⟨rfl, rfl, L⟩
            have hi := L.lt i List.mem_cons_self
            have he : es[i]? = some es[i] := Array.getElem?_eq_getElem hi
            obtain ⟨k', h1, h2, h3, h4⟩ := K.at_ i _ he
            simp only [he]
            by_cases hh : (es[i].hash == k.hash w) = true
            · rw [if_pos hh]
              refine wpAny_bind (wpAny_dictEpoch ho hd (wpAny_bind (look i _ k' he h1 h2 h4 _ (wpAny_bind (wpAny_dictEpoch ho hd ?_)))))
              rw [if_neg (by simp)]
              by_cases hkk : k' = k
              · subst hkk
                cases (show b2 = none from L.no K h1)
                simp only [decide_eq_true, if_true, Option.isSome_none, Bool.false_eq_true, if_false]
                refine wpAny_bind (wpAny_rule ?_)
                split
                · exact wpAny_pure (wpAny_pure (F.2 i h1))
                · exact wpAny_pure ⟨rfl, rfl, L.took K h1⟩
              · simp only [decide_eq_false hkk, Bool.false_and, Bool.false_eq_true, if_false]
                refine wpAny_bind (wpAny_rule (wpAny_pure ⟨rfl, rfl, L.next fun q => hkk ?_⟩))
                rw [h1] at q
                exact Option.some.inj q
            · rw [if_neg hh]
              refine wpAny_pure ⟨rfl, rfl, L.next fun q => hh ?_⟩
              rw [h1] at q
              cases q
              rw [h4, beq_self_eq_true]
          · rintro ⟨b1, b2⟩ s' ⟨rfl, rfl, L⟩
            exact wpAny_pure (L.told F)
        · rw [if_neg hs1]
          refine wpAny_bind (nd_quiet ⟨hk, hd8⟩ hq ?_)
          rw [if_neg (by simp)]
          refine wpAny_bind (wpAny_forIn_list _ (fun r b s' => s' = s ∧ b.1 = none ∧ Left es ks k r b.2) _ ?_ ?_ _ _ ⟨rfl, rfl, .start K⟩)
          · rintro i r ⟨b1, b2⟩ s' ⟨rfl, rfl, L⟩
            have hi := L.lt i List.mem_cons_self
            have he : es[i]? = some es[i] := Array.getElem?_eq_getElem hi
            obtain ⟨k', h1, h2, h3, h4⟩ := K.at_ i _ he
            simp only [he]
            by_cases hh : (es[i].hash == k.hash w) = true
            · rw [if_pos hh]
              refine wpAny_bind (wpAny_dictEpoch ho hd (wpAny_bind (look i _ k' he h1 h2 h4 _ (wpAny_bind (wpAny_dictEpoch ho hd ?_)))))
              rw [if_neg (by simp)]
              by_cases hkk : k' = k
              · subst hkk
                cases (show b2 = none from L.no K h1)
                simp only [decide_eq_true, if_true, Option.isSome_none, Bool.false_eq_true, if_false]
                refine wpAny_bind (wpAny_rule ?_)
                split
                · exact wpAny_pure (wpAny_pure (F.2 i h1))
                · exact wpAny_pure ⟨rfl, rfl, L.took K h1⟩
              · simp only [decide_eq_false hkk, Bool.false_and, Bool.false_eq_true, if_false]
                refine wpAny_bind (wpAny_rule (wpAny_pure ⟨rfl, rfl, L.next fun q => hkk ?_⟩))
                rw [h1] at q
                exact Option.some.inj q
            · rw [if_neg hh]
              refine wpAny_pure ⟨rfl, rfl, L.next fun q => hh ?_⟩
              rw [h1] at q
              cases q
              rw [h4, beq_self_eq_true]
          · rintro ⟨b1, b2⟩ s' ⟨rfl, rfl, L⟩
            exact wpAny_pure (L.told F)
      · by_cases hs1 : ((placesWithHash es.size (fun i => es[i]?.map (·.hash)) (k.hash w)).filterMap (fun i => es[i]?.map (·.key)) == [v]) = true
        · rw [if_pos hs1]
          refine wpAny_bind (wpAny_pure ?_)
          rw [if_neg (by simp)]
          refine wpAny_bind (wpAny_forIn_list _ (fun r b s' => s' = s ∧ b.1 = none ∧ Left es ks k r b.2) _ ?_ ?_ _ _ ⟨rfl, rfl, .start K⟩)
          · rintro i r ⟨b1, b2⟩ s' ⟨rfl, rfl, L⟩
            have hi := L.lt i List.mem_cons_self
            have he : es[i]? = some es[i] := Array.getElem?_eq_getElem hi
            obtain ⟨k', h1, h2, h3, h4⟩ := K.at_ i _ he
            simp only [he]
            by_cases hh : (es[i].hash == k.hash w) = true
            · rw [if_pos hh]
              refine wpAny_bind (wpAny_dictEpoch ho hd (wpAny_bind (look i _ k' he h1 h2 h4 _ (wpAny_bind (wpAny_dictEpoch ho hd ?_)))))
              rw [if_neg (by simp)]
              by_cases hkk : k' = k
              · subst hkk
                cases (show b2 = none from L.no K h1)
                simp only [decide_eq_true, if_true, Option.isSome_none, Bool.false_eq_true, if_false]
                refine wpAny_bind (wpAny_rule ?_)
                split
                · exact wpAny_pure (wpAny_pure (F.2 i h1))
                · exact wpAny_pure ⟨rfl, rfl, L.took K h1⟩
              · simp only [decide_eq_false hkk, Bool.false_and, Bool.false_eq_true, if_false]
                refine wpAny_bind (wpAny_rule (wpAny_pure ⟨rfl, rfl, L.next fun q => hkk ?_⟩))
                rw [h1] at q
                exact Option.some.inj q
            · rw [if_neg hh]
              refine wpAny_pure ⟨rfl, rfl, L.next fun q => hh ?_⟩
              rw [h1] at q
              cases q
              rw [h4, beq_self_eq_true]
          · rintro ⟨b1, b2⟩ s' ⟨rfl, rfl, L⟩
            exact wpAny_pure (L.told F)
        · rw [if_neg hs1]
          refine wpAny_bind (nd_quiet ⟨hk, hd8⟩ hq ?_)
          rw [if_neg (by simp)]
          refine wpAny_bind (wpAny_forIn_list _ (fun r b s' => s' = s ∧ b.1 = none ∧ Left es ks k r b.2) _ ?_ ?_ _ _ ⟨rfl, rfl, .start K⟩)
          · rintro i r ⟨b1, b2⟩ s' ⟨rfl, rfl, L⟩
            have hi := L.lt i List.mem_cons_self
            have he : es[i]? = some es[i] := Array.getElem?_eq_getElem hi
            obtain ⟨k', h1, h2, h3, h4⟩ := K.at_ i _ he
            simp only [he]
            by_cases hh : (es[i].hash == k.hash w) = true
            · rw [if_pos hh]
              refine wpAny_bind (wpAny_dictEpoch ho hd (wpAny_bind (look i _ k' he h1 h2 h4 _ (wpAny_bind (wpAny_dictEpoch ho hd ?_)))))
              rw [if_neg (by simp)]
              by_cases hkk : k' = k
              · subst hkk
                cases (show b2 = none from L.no K h1)
                simp only [decide_eq_true, if_true, Option.isSome_none, Bool.false_eq_true, if_false]
                refine wpAny_bind (wpAny_rule ?_)
                split
                · exact wpAny_pure (wpAny_pure (F.2 i h1))
                · exact wpAny_pure ⟨rfl, rfl, L.took K h1⟩
              · simp only [decide_eq_false hkk, Bool.false_and, Bool.false_eq_true, if_false]
                refine wpAny_bind (wpAny_rule (wpAny_pure ⟨rfl, rfl, L.next fun q => hkk ?_⟩))
                rw [h1] at q
                exact Option.some.inj q
            · rw [if_neg hh]
              refine wpAny_pure ⟨rfl, rfl, L.next fun q => hh ?_⟩
              rw [h1] at q
              cases q
              rw [h4, beq_self_eq_true]
          · rintro ⟨b1, b2⟩ s' ⟨rfl, rfl, L⟩
            exact wpAny_pure (L.told F)
end
end Dl

namespace Dl
open PySem L2 PyProof.Rows PySem.Spec

/-! ## dicts of any keys: reading, writing -/
structure Rw (w : World) (h : Heap) (d : Addr) (es : Array DictEntry) (ep : Nat) (ks : List NestedKey) : Prop where
  ob : DictObj d es ep h
  keys : KsAt w h es ks
section
variable {prog : Program} {w : World} {A : Around} {E : Value → Shared → Prop} {s : Shared} {d : Addr} {es : Array DictEntry} {ep : Nat} {ks : List NestedKey} {k : NestedKey} {v : Value}
theorem Rw.ty (R : Rw w s.heap d es ep ks) : s.TypeIs (.ref d) "dict" := by
  obtain ⟨o, h1, h2, _⟩ := R.ob
  exact ⟨o, h1, h2.1⟩
theorem Rw.noDict (R : Rw w s.heap d es ep ks) : ∀ b, Value.ref d = .ref b → ∃ ob, s.heap.get? b = some ob ∧ ob.dict = none := fun b q => by
  cases q
  obtain ⟨o, h1, h2, _⟩ := R.ob
  exact ⟨o, h1, h2.2.1⟩
/-- a key that is asked for -/
structure Kv (s : Shared) (k : NestedKey) (v : Value) : Prop where
  is : NestedIs s.heap k v
  le : k.depth ≤ 8
theorem nd_get {Q : Option Value → Shared → Prop} (hu : A.units + 8 < cLine) (R : Rw w s.heap d es ep ks) (kv : Kv s k v) (no : k ∉ ks → Q none { s with toks := s.toks + k.draws })
    (yes : ∀ (j : Nat) (e : DictEntry), ks[j]? = some k → es[j]? = some e → Q (some e.val) { s with toks := s.toks + k.draws }) : wpAny (model prog w) A (dictGet d v) Q E s := by
  obtain ⟨o, h1, h2, h3⟩ := R.ob
  unfold dictGet
  first | with_reducible refine wpAny_holding ?_ | skip
  refine wpAny_bind (pyHash_key k v A s _ kv.is (by have := kv.le; omega) (wpAny_bind (nd_find (s := { s with toks := s.toks + k.draws }) hu kv.is kv.le h1 h3 R.keys ⟨fun hn => ?_, fun j hj => ?_⟩)))
  · exact wpAny_pure (no hn)
  · obtain ⟨e, he, _⟩ := R.keys.here hj
    refine wpAny_bind (wpAny_dictEntries (s := { s with toks := s.toks + k.draws }) h1 h3 ?_)
    rw [he]
    exact wpAny_pure (yes j e hj he)
theorem dictObj_mod {h : Heap} {o : Obj} (h1 : h.get? d = some o) (h2 : o.ExactDict) (h3 : o.data = .dict es ep) (f : Array DictEntry → Array DictEntry) : DictObj d (f es) ep (h.update d (Obj.mapDict f)) :=
  ⟨_, Heap.get?_update_self _ h1 (Obj.isFreed_of_dict (Obj.data_mapDict h3 _)), h2.mapDict _, Obj.data_mapDict h3 _⟩
theorem dictObj_key {h : Heap} {o : Obj} (h1 : h.get? d = some o) (h2 : o.ExactDict) (h3 : o.data = .dict es ep) (f : Array DictEntry → Array DictEntry) : DictObj d (f es) (ep + 1) (h.update d (Obj.mapDictKeys f)) :=
  ⟨_, Heap.get?_update_self _ h1 (Obj.isFreed_of_dict (Obj.data_mapDictKeys h3 _)), h2.mapDictKeys _, Obj.data_mapDictKeys h3 _⟩
/-- the entries with x at k -/
def putE (es : Array DictEntry) (hs : Int) (v x : Value) : Option Nat → Array DictEntry
  | some j => es.modify j fun e => { e with val := x }
  | none => es.push ⟨hs, v, x⟩
theorem nd_set {x : Value} {Q : Unit → Shared → Prop} (hu : A.units + 8 < cLine) (R : Rw w s.heap d es ep ks) (kv : Kv s k v) (hz : es.size ≤ sizeLine)
    (no : k ∉ ks → ∀ h' t, DictObj d (putE es (k.hash w) v x none) (ep + 1) h' → Heap.SameBut d s.heap h' → Q () { s with heap := h', toks := t })
    (yes : ∀ j, ks[j]? = some k → ∀ h' t, DictObj d (putE es (k.hash w) v x (some j)) ep h' → Heap.SameBut d s.heap h' → Q () { s with heap := h', toks := t }) : wpAny (model prog w) A (dictSet d v x) Q E s := by
  obtain ⟨o, h1, h2, h3⟩ := R.ob
  unfold dictSet
  first | with_reducible refine wpAny_holding ?_ | skip
  refine wpAny_bind (pyHash_key k v A s _ kv.is (by have := kv.le; omega) ?_)
  unfold dictSetHashed
  first | with_reducible refine wpAny_holding ?_ | skip
  refine wpAny_bind (nd_find (s := { s with toks := s.toks + k.draws }) hu kv.is kv.le h1 h3 R.keys ⟨fun hn => ?_, fun j hj => ?_⟩)
  · exact wpAny_bind (wpAny_rule (wpAny_updateDictKeys (hz := hz) (s := { s with toks := s.toks + k.draws }) h1 h3 (no hn _ _ (dictObj_key h1 h2 h3 _) (Heap.SameBut.update ..))))
  · exact wpAny_bind (wpAny_rule (wpAny_bind (wpAny_updateDict (s := { s with toks := s.toks + k.draws }) h1 h3 (wpAny_point (yes j hj _ _ (dictObj_mod h1 h2 h3 _) (Heap.SameBut.update ..))))))
theorem nd_setdefault {x : Value} {Q : Value → Shared → Prop} (hu : A.units + 8 < cLine) (R : Rw w s.heap d es ep ks) (kv : Kv s k v) (hz : es.size ≤ sizeLine)
    (no : k ∉ ks → ∀ h' t, DictObj d (putE es (k.hash w) v x none) (ep + 1) h' → Heap.SameBut d s.heap h' → Q x { s with heap := h', toks := t })
    (yes : ∀ (j : Nat) (e : DictEntry), ks[j]? = some k → es[j]? = some e → ∀ t, Q e.val { s with toks := t }) : wpAny (model prog w) A (dictSetDefault d v x) Q E s := by
  obtain ⟨o, h1, h2, h3⟩ := R.ob
  unfold dictSetDefault
  first | with_reducible refine wpAny_holding ?_ | skip
  refine wpAny_bind (pyHash_key k v A s _ kv.is (by have := kv.le; omega) ?_)
  refine wpAny_bind (nd_find (s := { s with toks := s.toks + k.draws }) hu kv.is kv.le h1 h3 R.keys ⟨fun hn => ?_, fun j hj => ?_⟩)
  · exact wpAny_bind (wpAny_rule (wpAny_bind (wpAny_updateDictKeys (hz := hz) (s := { s with toks := s.toks + k.draws }) h1 h3 (wpAny_pure (no hn _ _ (dictObj_key h1 h2 h3 _) (Heap.SameBut.update ..))))))
  · obtain ⟨e, he, _⟩ := R.keys.here hj
    refine wpAny_bind (wpAny_dictEntries (s := { s with toks := s.toks + k.draws }) h1 h3 ?_)
    rw [he]
    exact wpAny_bind (wpAny_rule (wpAny_pure (yes j e hj he _)))
theorem nd_contains {Q : Bool → Shared → Prop} (hu : A.units + 20 < cLine) (hd : (d == sysModules) = false) (R : Rw w s.heap d es ep ks) (kv : Kv s k v) (no : k ∉ ks → Q false { s with toks := s.toks + k.draws })
    (yes : k ∈ ks → Q true { s with toks := s.toks + k.draws }) : wpAny (model prog w) A (contains (.ref d) v) Q E s := by
  refine wpAny_contains_slot R.ty F.slot_dict_contains ?_
  refine call_meetsIn F.slot_dict_contains R.ty F.entry_dict_contains (F.args_dict_contains_2 _ _) (S := fun A' q s' => A' = A ∧ s' = s ∧ (k ∉ ks → q (.ok (.ret (.bool false))) { s with toks := s.toks + k.draws }) ∧ (k ∈ ks → q (.ok (.ret (.bool true))) { s with toks := s.toks + k.draws }))
    (fun A' q s' hS => ?_) ⟨rfl, rfl, fun h => wpAny_truthy_bool (no h), fun h => wpAny_truthy_bool (yes h)⟩
  obtain ⟨rfl, rfl, q1, q2⟩ := hS
  show wpAny _ _ (dictGet d v >>= _) _ _ _
  refine wpAny_bind (nd_get (by show A'.units + 1 + 8 < cLine; omega) R kv (fun hn => ?_) fun j e hj he => ?_)
  · show wpAny _ _ (Builtin.Dict.pendingKey? d v >>= _) _ _ _
    exact wpAny_bind (wpAny_pendingKey_other hd (wpAny_pure (q1 hn)))
  · show wpAny _ _ (ret (.bool true)) _ _ _
    exact wpAny_pure (q2 (List.mem_of_getElem? hj))
theorem nd_item {Q : Value → Shared → Prop} (hu : A.units + 20 < cLine) (R : Rw w s.heap d es ep ks) (kv : Kv s k v) (hk : k ∈ ks)
    (yes : ∀ (j : Nat) (e : DictEntry), ks[j]? = some k → es[j]? = some e → Q e.val { s with toks := s.toks + k.draws }) : wpAny (model prog w) A (getItem (.ref d) v) Q E s := by
  unfold getItem
  first | with_reducible refine wpAny_holding ?_ | skip
  refine wpAny_bind (wpAny_sequenceKey R.ty (by decide) ?_)
  refine wpAny_bind (wpAny_callSpecial?_slot (name := Str.ofString "__getitem__") R.ty slot_dict_getitem (wpAny_call_entry slot_dict_getitem R.ty entry_dict_getitem ?_ (args_dict_getitem _ _)))
  show wpAny _ _ (dictGet d v >>= _) _ _ s
  refine wpAny_bind (nd_get (by show A.units + 1 + 8 < cLine; omega) R kv (fun hn => absurd hk hn) fun j e hj he => ?_)
  exact wpAny_pure ⟨e.val, rfl, wpAny_pure (yes j e hj he)⟩
theorem nd_setItem {x : Value} {Q : Unit → Shared → Prop} (hu : A.units + 20 < cLine) (R : Rw w s.heap d es ep ks) (kv : Kv s k v) (hz : es.size ≤ sizeLine)
    (no : k ∉ ks → ∀ h' t, DictObj d (putE es (k.hash w) v x none) (ep + 1) h' → Heap.SameBut d s.heap h' → Q () { s with heap := h', toks := t })
    (yes : ∀ j, ks[j]? = some k → ∀ h' t, DictObj d (putE es (k.hash w) v x (some j)) ep h' → Heap.SameBut d s.heap h' → Q () { s with heap := h', toks := t }) : wpAny (model prog w) A (setItem (.ref d) v x) Q E s := by
  unfold setItem
  first | with_reducible refine wpAny_holding ?_ | skip
  refine wpAny_bind (wpAny_sequenceKey R.ty (by decide) ?_)
  refine wpAny_bind (wpAny_callSpecial?_slot (name := Str.ofString "__setitem__") R.ty slot_dict_setitem (wpAny_call_entry slot_dict_setitem R.ty entry_dict_setitem ?_ (args_dict_setitem _ _ _)))
  show wpAny _ _ (Builtin.Dict.notOrdered "__setitem__" ⟨[.ref d, v, x], []⟩ >>= _) _ _ s
  refine wpAny_bind (wpAny_notOrdered_dict R.ty ?_)
  show wpAny _ _ (dictSet d v x >>= _) _ _ s
  exact wpAny_bind (nd_set (by show A.units + 1 + 8 < cLine; omega) R kv hz (fun hn h' t g1 g2 => wpAny_pure ⟨.none, rfl, wpAny_pure (no hn h' t g1 g2)⟩) fun j hj h' t g1 g2 => wpAny_pure ⟨.none, rfl, wpAny_pure (yes j hj h' t g1 g2)⟩)
theorem nd_call_get {more : List Value} {Q : Value → Shared → Prop} (dv : Value) (hm : more = [] ∧ dv = .none ∨ more = [dv]) (hu : A.units + 20 < cLine) (hd : (d == sysModules) = false) (R : Rw w s.heap d es ep ks) (kv : Kv s k v)
    (no : k ∉ ks → Q dv { s with toks := s.toks + k.draws }) (yes : ∀ (j : Nat) (e : DictEntry), ks[j]? = some k → es[j]? = some e → Q e.val { s with toks := s.toks + k.draws }) : wpAny (model prog w) A (call (.builtin "dict.get") (.ref d :: v :: more)) Q E s := by
  have hargs : argsOk "dict.get" ⟨.ref d :: v :: more, []⟩ := by
    rcases hm with ⟨rfl, _⟩ | rfl
    · exact F.args_dict_get_2 _ _
    · exact F.args_dict_get_3 _ _ _
  refine call_meetsIn F.slot_dict_get R.ty F.entry_dict_get hargs (S := fun A' q s' => A' = A ∧ s' = s ∧ (k ∉ ks → q (.ok (.ret dv)) { s with toks := s.toks + k.draws }) ∧ (∀ (j : Nat) (e : DictEntry), ks[j]? = some k → es[j]? = some e → q (.ok (.ret e.val)) { s with toks := s.toks + k.draws }))
    (fun A' q s' hS => ?_) ⟨rfl, rfl, fun h => no h, fun j e h1 h2 => yes j e h1 h2⟩
  obtain ⟨rfl, rfl, q1, q2⟩ := hS
  rcases hm with ⟨rfl, rfl⟩ | rfl
  all_goals
    show wpAny _ _ (dictGet d v >>= _) _ _ _
    refine wpAny_bind (nd_get (by show A'.units + 1 + 8 < cLine; omega) R kv (fun hn => ?_) fun j e hj he => ?_)
    · show wpAny _ _ (Builtin.Dict.missed d v >>= _) _ _ _
      exact wpAny_bind (wpAny_missed_other hd (wpAny_pure (q1 hn)))
    · exact wpAny_pure (q2 j e hj he)
end
end Dl

namespace Dl
open PySem L2 PyProof.Rows PySem.Spec

/-! ## dicts of any keys, in the store -/
/-- a key that may be asked for -/
def keyD (d : D) : Option NestedKey := match keyOf d with
  | some k => if k.depth ≤ 8 then some k else none
  | none => none
theorem keyD_of {d : D} {k : NestedKey} (h : keyD d = some k) : keyOf d = some k ∧ k.depth ≤ 8 := by
  unfold keyD at h
  cases e : keyOf d with
  | none =>
    rw [e] at h
    cases h
  | some k' =>
    rw [e] at h
    simp only at h
    split at h
    · cases h
      exact ⟨rfl, by assumption⟩
    · cases h
def lkD (kvs : List (D × D)) (k : NestedKey) : Option D := (kvs.find? fun p => decide (keyOf p.1 = some k)).map (·.2)
/-- a new key changes the dict's count -/
def epD (ep : Nat) (kvs : List (D × D)) (k : NestedKey) : Nat := if (lkD kvs k).isSome then ep else ep + 1
def putD (kvs : List (D × D)) (k : NestedKey) (d v : D) : List (D × D) := if (lkD kvs k).isSome then kvs.map fun p => if keyOf p.1 = some k then (p.1, v) else p else kvs ++ [(d, v)]

theorem paired_get {α β : Type} {F : α → β → Prop} {l1 : List α} {l2 : List β} {j : Nat} {x : α} (h : Paired F l1 l2) (e : l1[j]? = some x) : ∃ y, l2[j]? = some y ∧ F x y := by
  induction h generalizing j with
  | nil => simp at e
  | cons r t ih =>
    cases j with
    | zero =>
      simp only [List.getElem?_cons_zero, Option.some.injEq] at e
      subst e
      exact ⟨_, rfl, r⟩
    | succ j => exact ih e
theorem paired_get2 {α β : Type} {F : α → β → Prop} {l1 : List α} {l2 : List β} {j : Nat} {y : β} (h : Paired F l1 l2) (e : l2[j]? = some y) : ∃ x, l1[j]? = some x ∧ F x y := by
  induction h generalizing j with
  | nil => simp at e
  | cons r t ih =>
    cases j with
    | zero =>
      simp only [List.getElem?_cons_zero, Option.some.injEq] at e
      subst e
      exact ⟨_, rfl, r⟩
    | succ j => exact ih e
theorem paired_of {α β : Type} {F : α → β → Prop} : ∀ {l1 : List α} {l2 : List β}, l1.length = l2.length → (∀ (j : Nat) (x : α) (y : β), l1[j]? = some x → l2[j]? = some y → F x y) → Paired F l1 l2
  | [], [], _, _ => .nil
  | [], _ :: _, h, _ => by simp at h
  | _ :: _, [], h, _ => by simp at h
  | a :: l1, b :: l2, h, f => .cons (f 0 a b rfl rfl) (paired_of (by simpa using h) fun j x y h1 h2 => f (j + 1) x y h1 h2)
theorem paired_snoc {α β : Type} {F : α → β → Prop} {x : α} {y : β} : ∀ {l1 : List α} {l2 : List β}, Paired F l1 l2 → F x y → Paired F (l1 ++ [x]) (l2 ++ [y])
  | _, _, .nil, h => .cons h .nil
  | _, _, .cons r t, h => .cons r (paired_snoc t h)

section
variable {w : World} {K : PySem.W.Frag} {ρ : List Addr} {H : Hp}
theorem ent_keys : ∀ {kvs : List (D × D)} {es : List DictEntry}, Paired (EntR w K ρ H) kvs es → ∃ ks : List NestedKey, kvs.map (fun p => keyOf p.1) = ks.map some
  | _, _, .nil => ⟨[], rfl⟩
  | _, _, .cons r t => by
    obtain ⟨ks, h⟩ := ent_keys t
    obtain ⟨k, kv, dv, h1, _⟩ := r
    exact ⟨k :: ks, by simp [h1, h]⟩
theorem lk_none {kvs : List (D × D)} {ks : List NestedKey} {k : NestedKey} (e : kvs.map (fun p => keyOf p.1) = ks.map some) (h : k ∉ ks) : lkD kvs k = none := by
  unfold lkD
  rw [Option.map_eq_none_iff, List.find?_eq_none]
  intro p hp hk
  have h1 : keyOf p.1 = some k := of_decide_eq_true hk
  have h2 : some k ∈ kvs.map (fun p => keyOf p.1) := h1 ▸ List.mem_map_of_mem hp
  rw [e] at h2
  obtain ⟨k', h3, h4⟩ := List.mem_map.mp h2
  cases h4
  exact h h3
theorem keys_at {kvs : List (D × D)} {ks : List NestedKey} {j : Nat} {p : D × D} (e : kvs.map (fun p => keyOf p.1) = ks.map some) (h : kvs[j]? = some p) : ∃ k, keyOf p.1 = some k ∧ ks[j]? = some k := by
  have h1 : (kvs.map (fun p => keyOf p.1))[j]? = some (keyOf p.1) := by rw [List.getElem?_map, h]; rfl
  rw [e, List.getElem?_map] at h1
  cases q : ks[j]? with
  | none =>
    rw [q] at h1
    cases h1
  | some k =>
    rw [q] at h1
    exact ⟨k, by simpa using h1.symm, rfl⟩
theorem lk_some {kvs : List (D × D)} {ks : List NestedKey} {j : Nat} {k : NestedKey} (e : kvs.map (fun p => keyOf p.1) = ks.map some) (nd : ks.Nodup) (h : ks[j]? = some k) : ∃ p, kvs[j]? = some p ∧ keyOf p.1 = some k ∧ lkD kvs k = some p.2 := by
  have hl : kvs.length = ks.length := by simpa using congrArg List.length e
  have hj : j < kvs.length := by
    rw [hl]
    exact (List.getElem?_eq_some_iff.mp h).1
  have h1 : kvs[j]? = some kvs[j] := List.getElem?_eq_getElem hj
  obtain ⟨k', h2, h3⟩ := keys_at e h1
  rw [h] at h3
  cases h3
  refine ⟨_, h1, h2, ?_⟩
  unfold lkD
  cases q : kvs.find? (fun p => decide (keyOf p.1 = some k)) with
  | none =>
    have := List.find?_eq_none.mp q _ (List.mem_of_getElem? h1)
    simp [h2] at this
  | some p =>
    have q1 : keyOf p.1 = some k := by simpa using List.find?_some q
    obtain ⟨i, hi⟩ := List.mem_iff_getElem?.mp (List.mem_of_find?_eq_some q)
    obtain ⟨k2, h4, h5⟩ := keys_at e hi
    rw [q1] at h4
    cases h4
    have : i = j := (List.getElem?_inj (List.getElem?_eq_some_iff.mp h5).1 nd).mp (h5.trans h.symm)
    subst this
    rw [h1] at hi
    cases hi
    rfl
theorem nodup_some {ks : List NestedKey} (h : (ks.map some).Nodup) : ks.Nodup := by
  have h' : List.Pairwise (fun a b => a ≠ b) (ks.map some) := h
  rw [List.pairwise_map] at h'
  exact List.Pairwise.imp (fun q e => q (by rw [e])) h'
theorem some_nodup {ks : List NestedKey} (h : ks.Nodup) : (ks.map some).Nodup := by
  show List.Pairwise (fun a b => a ≠ b) (ks.map some)
  rw [List.pairwise_map]
  exact List.Pairwise.imp (fun q e => q (Option.some.inj e)) h
end

section
variable {X : Cx} {pins : List (Addr × Obj)} {σ : L2.St} {H : Hp} {s : Shared} {ρ : List Addr} {S : Sto} {l : Nat} {a : Addr} {kvs : List (D × D)} {es : Array DictEntry} {ep : Nat} {ks : List NestedKey} {k : NestedKey}
/-- a dict of the store, as the machine has it -/
structure Dat (X : Cx) (ρ : List Addr) (H : Hp) (s : Shared) (a : Addr) (ep : Nat) (kvs : List (D × D)) (es : Array DictEntry) (ks : List NestedKey) : Prop where
  sys : (a == sysModules) = false
  le : kvs.length ≤ sizeLine
  ext : H a = some (.ext (DictObj a es ep))
  rw : Rw X.w s.heap a es ep ks
  keys : kvs.map (fun p => keyOf p.1) = ks.map some
  pr : Paired (EntR X.w X.K ρ H) kvs es.toList
theorem dat_of (I : L2.Inv X pins σ H s) (h : OR X.w X.K X.mg ρ H a (.dct ep kvs)) : ∃ es ks, Dat X ρ H s a ep kvs es ks := by
  obtain ⟨h1, h2, h3, es, h4, h5⟩ := h
  obtain ⟨ks, h6⟩ := ent_keys h5
  have nd : ks.Nodup := nodup_some (by rw [← h6]; exact h3)
  obtain ⟨h7, _, _⟩ := I.hok a _ h4
  have hl : kvs.length = ks.length := by simpa using congrArg List.length h6
  refine ⟨es, ks, h1, h2, h4, ⟨h7, ⟨?_, fun j e he => ?_, nd⟩⟩, h6, h5⟩
  · rw [← hl, Paired.length h5, Array.length_toList]
  · rw [← Array.getElem?_toList] at he
    obtain ⟨p, hp, k, kv, dv, g1, g2, g3, g4, g5, _⟩ := paired_get2 h5 he
    obtain ⟨k', g6, g7⟩ := keys_at h6 hp
    rw [g1] at g6
    cases g6
    exact ⟨k, g7, nested_of I _ _ _ _ g1 g4 g5, g2, g3⟩
theorem Dat.size (D : Dat X ρ H s a ep kvs es ks) : es.size = kvs.length := by rw [Paired.length D.pr, Array.length_toList]
theorem Dat.get (D : Dat X ρ H s a ep kvs es ks) {j : Nat} {e : DictEntry} (h1 : ks[j]? = some k) (h2 : es[j]? = some e) : ∃ v dv, lkD kvs k = some v ∧ VR X.K ρ H v dv ∧ RelV dv e.val := by
  obtain ⟨p, h3, h4, h5⟩ := lk_some D.keys D.rw.keys.nd h1
  obtain ⟨e', h6, k', kv, dv, g1, g2, g3, g4, g5, g6, g7⟩ := paired_get D.pr h3
  rw [Array.getElem?_toList, h2] at h6
  cases h6
  exact ⟨_, dv, h5, g6, g7⟩
theorem dictObj_st {a : Addr} {es : Array DictEntry} {ep : Nat} : ∀ h1 h2 : Heap, DictObj a es ep h1 → (∀ o, h1.get? a = some o → h2.get? a = some o) → DictObj a es ep h2 := fun _ _ ⟨o, e, r⟩ k => ⟨o, k o e, r⟩
theorem ext_ok {P : Program} {w : World} {H : Hp} {h : Heap} {a : Addr} {es : Array DictEntry} {ep : Nat} (x : DictObj a es ep h) : ObjOk P w H h a (.ext (DictObj a es ep)) := ⟨x, let ⟨o, e, _⟩ := x; ⟨o, e⟩, dictObj_st⟩
/-- a dict's object is another one -/
theorem Dat.write (I : L2.Inv X pins σ H s) (D : Dat X ρ H s a ep kvs es ks) {es' : Array DictEntry} {ep' : Nat} {h' : Heap} {t : Nat} (x : DictObj a es' ep' h') (b : Heap.SameBut a s.heap h') : L2.Inv X pins σ (upd H a (.ext (DictObj a es' ep'))) { s with heap := h', toks := t } :=
  d_write I (by rw [D.ext]; exact True.intro) b (let ⟨o, e, _⟩ := x; ⟨o, e⟩) (ext_ok x)
theorem vx_dict {u : HO} (h : H a = some (.ext (DictObj a es ep))) : VX ρ H ρ (upd H a u) := vx_upd h (fun vs q => by cases q) fun x y q => by cases q
theorem modify_pr {kvs : List (D × D)} {F : D × D → DictEntry → Prop} {x : Value} {v : D} {j : Nat} (pr : Paired F kvs es.toList) (keys : kvs.map (fun p => keyOf p.1) = ks.map some) (nd : ks.Nodup) (hj : ks[j]? = some k)
    (G : D × D → DictEntry → Prop) (h1 : ∀ p e, F p e → G p e) (h2 : ∀ p e, F p e → G (p.1, v) { e with val := x }) :
    Paired G (kvs.map fun p => if keyOf p.1 = some k then (p.1, v) else p) (es.modify j fun e => { e with val := x }).toList := by
  refine paired_of ?_ fun i p e hp he => ?_
  · have := Paired.length pr
    simpa using this
  · rw [List.getElem?_map] at hp
    cases q : kvs[i]? with
    | none =>
      rw [q] at hp
      cases hp
    | some p0 =>
      rw [q] at hp
      obtain ⟨e0, q1, q2⟩ := paired_get pr q
      obtain ⟨k0, q3, q4⟩ := keys_at keys q
      rw [Array.getElem?_toList] at q1 he
      have hi : i < es.size := (Array.getElem?_eq_some_iff.mp q1).1
      rw [Array.getElem?_eq_getElem (by simpa using hi), Array.getElem_modify] at he
      have e0' : es[i] = e0 := by
        rw [Array.getElem?_eq_getElem hi] at q1
        exact Option.some.inj q1
      by_cases hij : j = i
      · subst hij
        rw [hj] at q4
        cases q4
        rw [if_pos rfl] at he
        simp only [Option.map_some, q3, if_true, Option.some.injEq] at hp
        subst hp
        cases he
        rw [e0']
        exact h2 _ _ q2
      · have hk : ¬ keyOf p0.1 = some k := fun z => by
          rw [q3] at z
          cases z
          exact hij ((List.getElem?_inj (List.getElem?_eq_some_iff.mp hj).1 nd).mp (hj.trans q4.symm))
        rw [if_neg hij] at he
        simp only [Option.map_some, if_neg hk, Option.some.injEq] at hp
        subst hp
        cases he
        rw [e0']
        exact h1 _ _ q2
theorem Dat.put_none (T : Dat X ρ H s a ep kvs es ks) {d v : D} {kv dv : V} {u x : Value} (hk : keyD d = some k) (r1 : VR X.K ρ H d kv) (q1 : RelV kv u) (r2 : VR X.K ρ H v dv) (q2 : RelV dv x) (hz : kvs.length < sizeLine) (hn : k ∉ ks) :
    OR X.w X.K X.mg ρ (upd H a (.ext (DictObj a (putE es (k.hash X.w) u x none) (ep + 1)))) a (.dct (epD ep kvs k) (putD kvs k d v)) := by
  have e1 := lk_none T.keys hn
  have vx : VX ρ H ρ (upd H a (.ext (DictObj a (putE es (k.hash X.w) u x none) (ep + 1)))) := vx_dict T.ext
  have e2 : putD kvs k d v = kvs ++ [(d, v)] := by simp [putD, e1]
  obtain ⟨hk1, hk2⟩ := keyD_of hk
  have e5 : epD ep kvs k = ep + 1 := by simp [epD, e1]
  rw [e5]
  refine ⟨T.sys, by rw [e2]; simp; omega, ?_, _, upd_same, ?_⟩
  · rw [e2, List.map_append, List.map_cons, List.map_nil, hk1, T.keys]
    have : (ks.map some ++ [some k]) = (ks ++ [k]).map some := by simp
    rw [this]
    refine some_nodup ?_
    rw [List.nodup_append]
    refine ⟨T.rw.keys.nd, by simp, fun y hy z hz e => ?_⟩
    simp only [List.mem_singleton] at hz
    subst hz e
    exact hn hy
  · rw [e2]
    have e3 : (putE es (k.hash X.w) u x none).toList = es.toList ++ [⟨k.hash X.w, u, x⟩] := by simp [putE]
    rw [e3]
    exact paired_snoc (Paired.mapP T.pr fun p e z => z.vx vx) ⟨k, kv, dv, hk1, hk2, rfl, VR.vx vx _ _ r1, q1, VR.vx vx _ _ r2, q2⟩
theorem Dat.put_some (T : Dat X ρ H s a ep kvs es ks) {d v : D} {dv : V} {u x : Value} {j : Nat} (r2 : VR X.K ρ H v dv) (q2 : RelV dv x) (hj : ks[j]? = some k) :
    OR X.w X.K X.mg ρ (upd H a (.ext (DictObj a (putE es (k.hash X.w) u x (some j)) ep))) a (.dct (epD ep kvs k) (putD kvs k d v)) := by
  obtain ⟨p, _, _, e1⟩ := lk_some T.keys T.rw.keys.nd hj
  have vx : VX ρ H ρ (upd H a (.ext (DictObj a (putE es (k.hash X.w) u x (some j)) ep))) := vx_dict T.ext
  have e2 : putD kvs k d v = kvs.map fun p => if keyOf p.1 = some k then (p.1, v) else p := by simp [putD, e1]
  have e4 : (putD kvs k d v).map (fun p => keyOf p.1) = kvs.map (fun p => keyOf p.1) := by
    rw [e2, List.map_map]
    refine List.map_congr_left fun p _ => ?_
    simp only [Function.comp]
    split <;> rfl
  have e5 : epD ep kvs k = ep := by simp [epD, e1]
  rw [e5]
  refine ⟨T.sys, by rw [e2, List.length_map]; exact T.le, by rw [e4, T.keys]; exact some_nodup T.rw.keys.nd, _, upd_same, ?_⟩
  rw [e2]
  exact modify_pr T.pr T.keys T.rw.keys.nd hj _ (fun p e z => z.vx vx) fun p e z => by
    obtain ⟨k', kv, dv', g1, g2, g3, g4, g5, _⟩ := z
    exact ⟨k', kv, dv, g1, g2, g3, VR.vx vx _ _ g4, g5, VR.vx vx _ _ r2, q2⟩
end

/-! ### the operations -/
def dIxD : DOp := fun d1 d2 S R => ∃ l ep kvs k v, d1 = .loc l ∧ S[l]? = some (.dct ep kvs) ∧ keyD d2 = some k ∧ lkD kvs k = some v ∧ R v S
def dInD : DOp := fun d1 d2 S R => ∃ l ep kvs k, d2 = .loc l ∧ S[l]? = some (.dct ep kvs) ∧ keyD d1 = some k ∧ R (.bl (lkD kvs k).isSome) S
def dNotInD : DOp := fun d1 d2 S R => ∃ l ep kvs k, d2 = .loc l ∧ S[l]? = some (.dct ep kvs) ∧ keyD d1 = some k ∧ R (.bl (!(lkD kvs k).isSome)) S
def dSetDct : DSet := fun d1 d2 d3 S R => ∃ l ep kvs k, d1 = .loc l ∧ S[l]? = some (.dct ep kvs) ∧ keyD d2 = some k ∧ kvs.length < sizeLine ∧ R (S.set l (.dct (epD ep kvs k) (putD kvs k d2 d3)))
section
variable {X : Cx}
theorem od_ixD (hu : X.A.units + 150 < cLine) : IxR X (rD X dIxD) := by
  intro value slice pins s σ H x y v u Q I rx ry ⟨ρ, S, d1, d2, R, W, r1, r2, ⟨l, ep, kvs, k, v', e1, h1, hk, h2, q⟩, p⟩ hs
  subst e1
  obtain ⟨a, h3, rfl⟩ := r1.loc_of
  cases (show v = Value.ref a from rx)
  obtain ⟨es, ks, D⟩ := dat_of I (W.obj l a _ h3 h1)
  obtain ⟨hk1, hk2⟩ := keyD_of hk
  have kv : Kv s k u := ⟨nested_of I _ _ _ _ hk1 r2 ry, hk2⟩
  have hm : k ∈ ks := Classical.byContradiction fun hn => by
    rw [lk_none D.keys hn] at h2
    cases h2
  unfold subscriptTail
  refine wpAny_bind ?_
  rw [getitemInPython_of_ne (D.rw.ty).not_modules]
  refine wpAny_bind (wpAny_specialOf D.rw.ty slot_dict_getitem.lookup ?_)
  have fin : wpAny (model X.prog X.w) X.A (subscripted slice false (.ref a) u) (fun r s₃ => wpAny (model X.prog X.w) X.A (letTemporaryGo value (.ref a) r >>= fun _ => pure r) (EP X pins σ Q) X.xe s₃) X.xe s := by
    rw [hs]
    refine wpAny_operating (nd_item (by omega) D.rw kv hm fun j e g1 g2 => wpAny_bind (wpAny_letTemporaryGo (wpAny_pure ?_)))
    obtain ⟨v2, dv, g3, g4, g5⟩ := D.get g1 g2
    rw [h2] at g3
    cases g3
    exact ⟨dv, H, I.tok _, g5, p _ _ q ρ H _ (Ext.refl _ _) W g4⟩
  first
    | exact wpAny_pure (wpAny_bind fin)
    | exact wpAny_bind (wpAny_pure (wpAny_bind fin))
    | exact wpAny_bind fin
theorem od_inD (hu : X.A.units + 150 < cLine) : OpR X (compareOp .In) (rD X dInD) := by
  intro pins s σ H x y v u Q I rx ry ⟨ρ, S, d1, d2, R, W, r1, r2, ⟨l, ep, kvs, k, e2, h1, hk, q⟩, p⟩
  subst e2
  obtain ⟨a, h3, rfl⟩ := r2.loc_of
  cases (show u = Value.ref a from ry)
  obtain ⟨es, ks, D⟩ := dat_of I (W.obj l a _ h3 h1)
  obtain ⟨hk1, hk2⟩ := keyD_of hk
  have kv : Kv s k v := ⟨nested_of I _ _ _ _ hk1 r1 rx, hk2⟩
  show wpAny _ _ (do return Value.bool (← contains (.ref a) v)) _ _ s
  refine wpAny_bind (nd_contains (by omega) D.sys D.rw kv (fun hn => wpAny_pure ?_) fun hm => wpAny_pure ?_)
  · rw [lk_none D.keys hn] at q
    exact ⟨.bl false, H, I.tok _, rfl, p _ _ q ρ H _ (Ext.refl _ _) W .bl⟩
  · obtain ⟨j, hj⟩ := List.mem_iff_getElem?.mp hm
    obtain ⟨p0, _, _, e3⟩ := lk_some D.keys D.rw.keys.nd hj
    rw [e3] at q
    exact ⟨.bl true, H, I.tok _, rfl, p _ _ q ρ H _ (Ext.refl _ _) W .bl⟩
theorem od_notInD (hu : X.A.units + 150 < cLine) : OpR X (compareOp .NotIn) (rD X dNotInD) := by
  intro pins s σ H x y v u Q I rx ry ⟨ρ, S, d1, d2, R, W, r1, r2, ⟨l, ep, kvs, k, e2, h1, hk, q⟩, p⟩
  subst e2
  obtain ⟨a, h3, rfl⟩ := r2.loc_of
  cases (show u = Value.ref a from ry)
  obtain ⟨es, ks, D⟩ := dat_of I (W.obj l a _ h3 h1)
  obtain ⟨hk1, hk2⟩ := keyD_of hk
  have kv : Kv s k v := ⟨nested_of I _ _ _ _ hk1 r1 rx, hk2⟩
  show wpAny _ _ (do return Value.bool (!(← contains (.ref a) v))) _ _ s
  refine wpAny_bind (nd_contains (by omega) D.sys D.rw kv (fun hn => wpAny_pure ?_) fun hm => wpAny_pure ?_)
  · rw [lk_none D.keys hn] at q
    exact ⟨.bl true, H, I.tok _, rfl, p _ _ q ρ H _ (Ext.refl _ _) W .bl⟩
  · obtain ⟨j, hj⟩ := List.mem_iff_getElem?.mp hm
    obtain ⟨p0, _, _, e3⟩ := lk_some D.keys D.rw.keys.nd hj
    rw [e3] at q
    exact ⟨.bl false, H, I.tok _, rfl, p _ _ q ρ H _ (Ext.refl _ _) W .bl⟩
theorem sd_setDct (hu : X.A.units + 150 < cLine) : PSet X (rSetD X dSetDct) := by
  intro pins s σ H o i v ov iv u Q I ro ri rv ⟨ρ, S, d1, d2, d3, R, W, r1, r2, r3, ⟨l, ep, kvs, k, e1, h1, hk, hz, q⟩, p⟩
  subst e1
  obtain ⟨a, h3, rfl⟩ := r1.loc_of
  cases (show ov = Value.ref a from ro)
  obtain ⟨es, ks, D⟩ := dat_of I (W.obj l a _ h3 h1)
  obtain ⟨hk1, hk2⟩ := keyD_of hk
  have kv : Kv s k iv := ⟨nested_of I _ _ _ _ hk1 r2 ri, hk2⟩
  refine nd_setItem (by omega) D.rw kv (by rw [D.size]; exact D.le) (fun hn h' t g1 g2 => ?_) fun j hj h' t g1 g2 => ?_
  · exact ⟨_, D.write I g1 g2, p _ q ρ _ (ext_write (List.mem_of_getElem? h3)) (W.write h3 (D.put_none hk r2 ri r3 rv hz hn))⟩
  · exact ⟨_, D.write I g1 g2, p _ q ρ _ (ext_write (List.mem_of_getElem? h3)) (W.write h3 (D.put_some r3 rv hj))⟩
def dGetM : DMt := fun d ds S R => ∃ l ep kvs k x dv, d = .loc l ∧ ((ds = [x] ∧ dv = .non) ∨ ds = [x, dv]) ∧ S[l]? = some (.dct ep kvs) ∧ keyD x = some k ∧ R ((lkD kvs k).getD dv) S
theorem md_getM (hu : X.A.units + 150 < cLine) : MtR X "dict.get" (rMD X dGetM) := by
  intro pins s σ H x xs v us Q I rx rs ⟨ρ, S, d, ds, R, W, r1, r2, ⟨l, ep, kvs, k, x', dv, e1, e2, h1, hk, q⟩, p⟩
  subst e1
  obtain ⟨a, h3, rfl⟩ := r1.loc_of
  cases (show v = Value.ref a from rx)
  obtain ⟨es, ks, D⟩ := dat_of I (W.obj l a _ h3 h1)
  obtain ⟨hk1, hk2⟩ := keyD_of hk
  have main : ∀ (xv : V) (u : Value) (more : List Value) (dvv : V) (du : Value), (more = [] ∧ du = .none ∨ more = [du]) → VR X.K ρ H x' xv → RelV xv u → VR X.K ρ H dv dvv → RelV dvv du →
      wpAny (model X.prog X.w) X.A (call (.builtin "dict.get") (.ref a :: u :: more)) (EP X pins σ Q) X.xe s := by
    intro xv u more dvv du hm g1 g2 g3 g4
    have kv : Kv s k u := ⟨nested_of I _ _ _ _ hk1 g1 g2, hk2⟩
    refine nd_call_get du hm (by omega) D.sys D.rw kv (fun hn => ?_) fun j e g5 g6 => ?_
    · rw [lk_none D.keys hn] at q
      exact ⟨dvv, H, I.tok _, g4, p _ _ q ρ H _ (Ext.refl _ _) W g3⟩
    · obtain ⟨v2, dv2, g7, g8, g9⟩ := D.get g5 g6
      rw [g7] at q
      exact ⟨dv2, H, I.tok _, g9, p _ _ q ρ H _ (Ext.refl _ _) W g8⟩
  rcases e2 with ⟨rfl, rfl⟩ | rfl
  · obtain ⟨xv, rfl, g1⟩ := r2.one_of
    cases rs with
    | cons h t =>
      cases t
      exact main xv _ [] .non .none (.inl ⟨rfl, rfl⟩) g1 h .non rfl
  · obtain ⟨xv, dvv, rfl, g1, g2⟩ := r2.two_of
    cases rs with
    | cons h t =>
      cases t with
      | cons h2 t2 =>
        cases t2
        exact main xv _ _ dvv _ (.inr rfl) g1 h g2 h2
end
end Dl

namespace Dl
open PySem L2 PyProof.Rows PySem.Spec

/-! ## == of dicts whose values are keys, too -/
/-- each pair of the first is a pair of the second -/
def allK : List (D × D) → List (D × D) → Option Bool
  | [], _ => some true
  | (k, v) :: r, other => match keyOf k with
    | none => none
    | some kk => match lkD other kk with
      | none => some false
      | some y => match keyOf v, keyOf y with
        | some a, some b => if min a.depth b.depth ≤ 100 then (if NestedKey.beq a b = true then allK r other else some false) else none
        | _, _ => none
def eqK (k1 k2 : List (D × D)) : Option Bool := if k1.length = k2.length then allK k1 k2 else some false
section
variable {X : Cx} {pins : List (Addr × Obj)} {σ : L2.St} {H : Hp} {s : Shared} {ρ : List Addr} {S : Sto} {a b : Addr} {e1 e2 : Nat} {kv1 kv2 : List (D × D)} {es1 es2 : Array DictEntry} {ks1 ks2 : List NestedKey} {r : Bool} {A : Around} {E : Value → Shared → Prop}
theorem nd_same {nm : String} {Q : Bool → Shared → Prop} (hu : A.units + 130 < cLine) (I : L2.Inv X pins σ H s) (T1 : Dat X ρ H s a e1 kv1 es1 ks1) (T2 : Dat X ρ H s b e2 kv2 es2 ks2) (h : eqK kv1 kv2 = some r) (q : Q r s) :
    wpAny (model X.prog X.w) A (Builtin.Dict.samePairs nm a b) Q E s := by
  obtain ⟨o1, g1, _, g2⟩ := T1.rw.ob
  obtain ⟨o2, g3, _, g4⟩ := T2.rw.ob
  have z1 := T1.size
  have z2 := T2.size
  unfold Builtin.Dict.samePairs Builtin.Dict.showsAll
  rw [if_neg (by rw [T1.sys]; exact Bool.false_ne_true), if_neg (by rw [T2.sys]; exact Bool.false_ne_true)]
  refine wpAny_bind (wpAny_pure (wpAny_bind (wpAny_pure (wpAny_bind (wpAny_dictEntries g1 g2 ?_)))))
  dsimp only
  refine wpAny_bind (wpAny_dictEntries g3 g4 ?_)
  unfold eqK at h
  by_cases hz : kv1.length = kv2.length
  · rw [if_pos hz] at h
    rw [if_neg (by rw [z1, z2, hz]; simp)]
    refine wpAny_bind (wpAny_dictEpoch g1 g2 (wpAny_bind ?_))
    rw [Std.Legacy.Range.forIn_eq_forIn_range']
    simp only [Std.Legacy.Range.size, Nat.sub_zero, Nat.add_sub_cancel, Nat.div_one]
    refine wpAny_forIn_list _ (fun rest w s' => s' = s ∧ w = (none, ()) ∧ ∃ i, rest = List.range' i (es1.size - i) ∧ i ≤ es1.size ∧ allK (kv1.drop i) kv2 = some r) _ ?_ ?_ _ _ ⟨rfl, rfl, 0, by simp, Nat.zero_le _, h⟩
    · rintro x rest w s' ⟨rfl, rfl, i, hr, hi, hk⟩
      have hlt : i < es1.size := by
        rcases Nat.lt_or_ge i es1.size with c | c
        · exact c
        · rw [Nat.sub_eq_zero_of_le c] at hr
          cases hr
      have er : es1.size - i = (es1.size - (i + 1)) + 1 := by omega
      rw [er, List.range'_succ] at hr
      injection hr with hx hrest
      subst hx
      have hl1 : x < kv1.length := by omega
      obtain ⟨⟨k, v⟩, hp⟩ : ∃ p, kv1[x]? = some p := ⟨_, List.getElem?_eq_getElem hl1⟩
      have hdrop : kv1.drop x = (k, v) :: kv1.drop (x + 1) := by
        rw [List.drop_eq_getElem_cons hl1]
        have := List.getElem?_eq_getElem hl1
        rw [hp] at this
        rw [← Option.some.inj this]
      obtain ⟨en, hen, kk, kvv, dv, c1, c2, c3, c4, c5, c6, c7⟩ := paired_get T1.pr hp
      rw [Array.getElem?_toList] at hen
      rw [hdrop] at hk
      unfold allK at hk
      simp only [c1] at hk
      refine wpAny_bind (wpAny_dictEntries g1 g2 ?_)
      rw [hen]
      show wpAny _ _ (holding [en.key, en.val] _ >>= _) _ _ _
      have kn : NestedIs s'.heap kk en.key := nested_of I _ _ _ _ c1 c4 c5
      rw [c3]
      refine wpAny_bind (wpAny_holding (wpAny_bind (nd_find (by omega) kn c2 g3 g4 T2.rw.keys ⟨fun hn => ?_, fun j hj => ?_⟩)))
      · rw [lk_none T2.keys hn] at hk
        cases hk
        refine wpAny_pure ?_
        show wpAny _ _ (if (!false) = true then _ else _) _ _ _
        rw [if_pos (by decide)]
        exact wpAny_pure (wpAny_pure q)
      · obtain ⟨y, c8, c9, c10⟩ := lk_some T2.keys T2.rw.keys.nd hj
        rw [c10] at hk
        obtain ⟨e2', he2, k2, kv2', dv2, m1, m2, m3, m4, m5, m6, m7⟩ := paired_get T2.pr c8
        rw [Array.getElem?_toList] at he2
        cases ka : keyOf v with
        | none =>
          simp only [ka] at hk
          cases hk
        | some A1 =>
          cases kb : keyOf y.2 with
          | none =>
            simp only [ka, kb] at hk
            cases hk
          | some B1 =>
            simp only [ka, kb] at hk
            by_cases hd : min A1.depth B1.depth ≤ 100
            · rw [if_pos hd] at hk
              refine wpAny_bind (wpAny_dictEntries g3 g4 ?_)
              rw [he2]
              have n1 : NestedIs s'.heap A1 en.val := nested_of I _ _ _ _ ka c6 c7
              have n2 : NestedIs s'.heap B1 e2'.val := nested_of I _ _ _ _ kb m6 m7
              refine wpAny_holding (eqAt_key A1 B1 A s' _ _ n1 n2 (by omega) _ _ _ _ ?_)
              by_cases hb : NestedKey.beq A1 B1 = true
              · rw [if_pos hb] at hk
                rw [hb]
                show wpAny _ _ (if (!true) = true then _ else _) _ _ _
                rw [if_neg (by decide)]
                refine wpAny_bind (wpAny_dictEpoch g1 g2 ?_)
                rw [if_neg (by simp)]
                exact wpAny_pure ⟨rfl, rfl, x + 1, hrest, hlt, hk⟩
              · rw [if_neg hb] at hk
                cases hk
                rw [Bool.not_eq_true _ |>.mp hb]
                show wpAny _ _ (if (!false) = true then _ else _) _ _ _
                rw [if_pos (by decide)]
                exact wpAny_pure (wpAny_pure q)
            · rw [if_neg hd] at hk
              cases hk
    · rintro w s' ⟨rfl, rfl, i, hr, hi, hk⟩
      have hin : i = es1.size := by
        rcases Nat.lt_or_ge i es1.size with c | c
        · have er : es1.size - i = (es1.size - (i + 1)) + 1 := by omega
          rw [er, List.range'_succ] at hr
          cases hr
        · omega
      rw [hin, z1, List.drop_length] at hk
      cases hk
      exact wpAny_pure q
  · rw [if_neg hz] at h
    cases h
    rw [if_pos (by rw [z1, z2]; simpa using hz)]
    exact wpAny_bind (wpAny_rule (wpAny_pure q))
theorem nd_rc (op : CmpOp) (wanted : Bool) (hu : A.units + 140 < cLine) (I : L2.Inv X pins σ H s) (T1 : Dat X ρ H s a e1 kv1 es1 ks1) (T2 : Dat X ρ H s b e2 kv2 es2 ks2) (h : eqK kv1 kv2 = some r)
    (hop : op = .Eq ∧ wanted = true ∨ op = .NotEq ∧ wanted = false) {Q : Value → Shared → Prop} (q : Q (.bool (r == wanted)) s) : wpAny (model X.prog X.w) A (richCompare op (.ref a) (.ref b)) Q E s := by
  rcases hop with ⟨rfl, rfl⟩ | ⟨rfl, rfl⟩
  · refine wpAny_richCompare_same_room (op := .Eq) T1.rw.ty T2.rw.ty PySem.F.slot_dict_eq (wpAny_call_entry PySem.F.slot_dict_eq T1.rw.ty PySem.F.entry_dict_eq ?_ (PySem.F.args_dict_eq_2 _ _)) (by omega)
    show wpAny _ _ (Builtin.Dict.dictSlotArgs "__eq__" ⟨[.ref a, .ref b], []⟩ >>= _) _ _ s
    refine wpAny_bind ?_
    unfold Builtin.Dict.dictSlotArgs
    refine wpAny_bind (wpAny_notOrdered_dict T1.rw.ty (wpAny_pure ?_))
    refine wpAny_bind (wpAny_isInstance (T := "dict") T2.rw.ty PySem.F.sub_dict_dict ?_)
    simp only [Bool.not_true, Bool.false_eq_true, if_false]
    refine wpAny_bind (wpAny_pure (wpAny_bind (wpAny_pure (wpAny_bind (nd_same (by show A.units + 1 + 130 < cLine; omega) I T1 T2 h (wpAny_pure ⟨_, rfl, ?_, ?_⟩))))))
    · exact fun x => nomatch x
    · simpa using q
  · refine wpAny_richCompare_same_room (op := .NotEq) T1.rw.ty T2.rw.ty PySem.F.slot_dict_ne (wpAny_call_entry PySem.F.slot_dict_ne T1.rw.ty PySem.F.entry_dict_ne ?_ (PySem.F.args_dict_ne_2 _ _)) (by omega)
    show wpAny _ _ (Builtin.Dict.dictSlotArgs "__ne__" ⟨[.ref a, .ref b], []⟩ >>= _) _ _ s
    refine wpAny_bind ?_
    unfold Builtin.Dict.dictSlotArgs
    refine wpAny_bind (wpAny_notOrdered_dict T1.rw.ty (wpAny_pure ?_))
    refine wpAny_bind (wpAny_isInstance (T := "dict") T2.rw.ty PySem.F.sub_dict_dict ?_)
    simp only [Bool.not_true, Bool.false_eq_true, if_false]
    refine wpAny_bind (wpAny_pure (wpAny_bind (wpAny_pure (wpAny_bind (nd_same (by show A.units + 1 + 130 < cLine; omega) I T1 T2 h (wpAny_pure ⟨_, rfl, ?_, ?_⟩))))))
    · exact fun x => nomatch x
    · simpa using q
end
def dEqD : DOp := fun d1 d2 S R => ∃ i j e1 e2 k1 k2 b, d1 = .loc i ∧ d2 = .loc j ∧ S[i]? = some (.dct e1 k1) ∧ S[j]? = some (.dct e2 k2) ∧ eqK k1 k2 = some b ∧ R (.bl b) S
def dNeD : DOp := fun d1 d2 S R => ∃ i j e1 e2 k1 k2 b, d1 = .loc i ∧ d2 = .loc j ∧ S[i]? = some (.dct e1 k1) ∧ S[j]? = some (.dct e2 k2) ∧ eqK k1 k2 = some b ∧ R (.bl (!b)) S
section
variable {X : Cx}
theorem od_eqD (hu : X.A.units + 150 < cLine) : OpR X (compareOp .Eq) (rD X dEqD) := fun pins s σ H x y v u Q I rx ry ⟨ρ, S, d1, d2, R, W, r1, r2, ⟨i, j, e1, e2, k1, k2, b, g1, g2, h1, h2, h3, q⟩, p⟩ => by
  subst g1 g2
  obtain ⟨a, c1, rfl⟩ := r1.loc_of
  obtain ⟨a2, c2, rfl⟩ := r2.loc_of
  cases (show v = Value.ref a from rx)
  cases (show u = Value.ref a2 from ry)
  obtain ⟨es1, ks1, T1⟩ := dat_of I (W.obj i a _ c1 h1)
  obtain ⟨es2, ks2, T2⟩ := dat_of I (W.obj j a2 _ c2 h2)
  refine nd_rc .Eq true (by omega) I T1 T2 h3 (.inl ⟨rfl, rfl⟩) ⟨.bl b, H, I, by cases b <;> rfl, p _ _ q ρ H _ (Ext.refl _ _) W .bl⟩
theorem od_neD (hu : X.A.units + 150 < cLine) : OpR X (compareOp .NotEq) (rD X dNeD) := fun pins s σ H x y v u Q I rx ry ⟨ρ, S, d1, d2, R, W, r1, r2, ⟨i, j, e1, e2, k1, k2, b, g1, g2, h1, h2, h3, q⟩, p⟩ => by
  subst g1 g2
  obtain ⟨a, c1, rfl⟩ := r1.loc_of
  obtain ⟨a2, c2, rfl⟩ := r2.loc_of
  cases (show v = Value.ref a from rx)
  cases (show u = Value.ref a2 from ry)
  obtain ⟨es1, ks1, T1⟩ := dat_of I (W.obj i a _ c1 h1)
  obtain ⟨es2, ks2, T2⟩ := dat_of I (W.obj j a2 _ c2 h2)
  refine nd_rc .NotEq false (by omega) I T1 T2 h3 (.inr ⟨rfl, rfl⟩) ⟨.bl (!b), H, I, by cases b <;> rfl, p _ _ q ρ H _ (Ext.refl _ _) W .bl⟩
end
end Dl

namespace Dl
open PySem L2 PyProof.Rows PySem.Spec

/-! ## dicts: displays, methods, len -/
/-- the dict of the pairs, one stored behind the other -/
def stoD : Nat × List (D × D) → List (D × D) → Option (Nat × List (D × D))
  | acc, [] => some acc
  | acc, (k, v) :: r => match keyD k with
    | some kk => stoD (epD acc.1 acc.2 kk, putD acc.2 kk k v) r
    | none => none
abbrev WP := DEnv → Sto → (List (D × D) → Sto → Prop) → Prop
def wpNil : WP := fun _ S Q => Q [] S
def wpCons (wk wv : WE) (wr : WP) : WP := fun τ S Q => wk τ S fun k S1 => wv τ S1 fun v S2 => wr τ S2 fun ps S3 => Q ((k, v) :: ps) S3
/-- {k: v, ..} -/
def wDct (wr : WP) : WE := fun τ S R => wr τ S fun ps S1 => ps.length ≤ 1000 ∧ ∃ z, stoD (0, []) ps = some z ∧ R (.loc S1.length) (S1 ++ [.dct z.1 z.2])
def wDct0 : WE := fun τ S R => R (.loc S.length) (S ++ [.dct 0 []])
abbrev VRp (K : PySem.W.Frag) (ρ : List Addr) (H : Hp) (p : D × D) (q : V × V) : Prop := VR K ρ H p.1 q.1 ∧ VR K ρ H p.2 q.2
abbrev TP := L2.St → Hp → (List (V × V) → Hp → Prop) → Prop
structure PPd (X : Cx) (pos : Pos) (keys : List (Option Expr)) (values : List Expr) (t : TP) : Prop where
  run : ∀ (pins : List (Addr × Obj)) (s : Shared) (σ : L2.St) (H : Hp) (Q : List (V × V) → Hp → Prop), L2.Inv X pins σ H s → t σ H Q →
    wpAny (model X.prog X.w) X.A (evalPairs (pairTrees keys values X.env pos)) (fun vs s' => ∃ ps H', L2.Inv X pins σ H' s' ∧ VV ps vs ∧ Q ps H') X.xe s
/-- the pairs; p: the dict that stands ready for them, no object of the store -/
def dP (X : Cx) (w : WP) : TP := fun σ H Q => ∃ ρ τ S R, XW X ρ S H ∧ ER X.K ρ H τ σ ∧ w τ S R ∧ ∀ ps S', R ps S' → ∀ ρ' H' qs, Ext ρ H ρ' H' → XW X ρ' S' H' → Paired (VRp X.K ρ' H') ps qs → Q qs H'
section
variable {X : Cx} {pos : Pos} {k v : Expr} {ks : List (Option Expr)} {vs : List Expr} {wk wv : WE} {wr : WP}
theorem pp_nil : PPd X pos [] [] (dP X wpNil) := ⟨fun pins s σ H Q I ⟨ρ, τ, S, R, W, er, h, p⟩ => pairTrees_nil_walk ⟨[], H, I, .nil, p _ _ h ρ H _ (Ext.refl _ _) W .nil⟩⟩
theorem pp_cons (hk : PE X k (dE X wk)) (hv : PE X v (dE X wv)) (hr : PPd X pos ks vs (dP X wr)) : PPd X pos (some k :: ks) (v :: vs) (dP X (wpCons wk wv wr)) := by
  refine ⟨fun pins s σ H Q I ⟨ρ, τ, S, R, W, er, h, p⟩ => ?_⟩
  refine pairTrees_cons_walk (thn (hk.run pins s σ H (fun x H1 => dE X wv σ H1 fun y H2 => dP X wr σ H2 fun ps H3 => Q ((x, y) :: ps) H3) I ⟨ρ, τ, S, _, W, er, h, fun d1 S1 h1 ρ1 H1 x x1 W1 r1 => ⟨ρ1, τ, S1, _, W1, er.ext W.sep x1, h1, fun d2 S2 h2 ρ2 H2 y x2 W2 r2 =>
    ⟨ρ2, τ, S2, _, W2, (er.ext W.sep x1).ext W1.sep x2, h2, fun ps S3 h3 ρ3 H3 qs x3 W3 r3 => ?_⟩⟩⟩) fun u s1 ⟨x, H1, I1, rx, q1⟩ => thn (hv.run pins s1 σ H1 _ I1 q1) fun w2 s2 ⟨y, H2, I2, ry, q2⟩ =>
      thn (hr.run pins s2 σ H2 _ I2 q2) fun ws s3 ⟨ps, H3, I3, rel, q3⟩ => ⟨(x, y) :: ps, H3, I3, .cons ⟨rx, ry⟩ rel, q3⟩)
  have x12 := x1.trans W1.sep x2
  exact p _ _ h3 ρ3 H3 _ (x12.trans W2.sep x3) W3 (.cons ⟨(r1.ext W1.sep x2).ext W2.sep x3, r2.ext W2.sep x3⟩ r3)
theorem dct_new {P : Program} {w : World} {H : Hp} (h : Heap) : ObjOk P w H (h.push { cls := .type "dict", data := .dict #[] }) h.objs.size (.ext (DictObj h.objs.size #[] 0)) := ext_ok ⟨_, Heap.get?_push_size _ rfl, ⟨rfl, rfl, rfl⟩, rfl⟩
theorem sys_new {h : Heap} (hb : sysModules < h.objs.size) : (h.objs.size == sysModules) = false := beq_eq_false_iff_ne.mpr (Ne.symm (Nat.ne_of_lt hb))
theorem or_empty {ρ : List Addr} {H : Hp} {a : Addr} (hs : (a == sysModules) = false) (h : H a = some (.ext (DictObj a #[] 0))) : OR X.w X.K X.mg ρ H a (.dct 0 []) :=
  ⟨hs, Nat.zero_le _, List.nodup_nil, #[], h, .nil⟩
theorem de_dct0 : PE X (.Dict [] [] pos) (dE X wDct0) := by
  refine ⟨fun pins s σ H Q I ⟨ρ, τ, S, R, W, er, h, p⟩ => ?_⟩
  have hn := I.hok.fresh (Nat.le_refl s.heap.objs.size)
  have I1 := I.laid (a := s.heap.objs.size) (o := .ext (DictObj s.heap.objs.size #[] 0)) (t' := s.toks) (fun _ _ q => Heap.get?_push_of_some _ q) (Nat.le_refl _) (dct_new s.heap)
  refine wpAny_Dict_empty ⟨.ref s.heap.objs.size, _, I1, rfl, ?_⟩
  exact p _ _ h _ _ _ (ext_alloc hn) (W.alloc hn (or_empty (sys_new I.big) upd_same)) (.loc (by rw [← W.len]; exact List.getElem?_concat_length ..))
/-- the pairs are stored -/
theorem nd_store {pins : List (Addr × Obj)} {σ : L2.St} {a : Addr} {ρ : List Addr} (hu : X.A.units + 150 < cLine) : ∀ (ps : List (D × D)) (qs : List (V × V)) (vs : List (Value × Value)) (acc z : Nat × List (D × D)) (s : Shared) (H : Hp) (Q : Hp → Prop), L2.Inv X pins σ H s →
    OR X.w X.K X.mg ρ H a (.dct acc.1 acc.2) → Paired (VRp X.K ρ H) ps qs → VV qs vs → stoD acc ps = some z → acc.2.length + ps.length ≤ 1000 →
    (∀ H', VX ρ H ρ H' → (∀ b, b ≠ a → H' b = H b) → OR X.w X.K X.mg ρ H' a (.dct z.1 z.2) → Q H') → wpAny (model X.prog X.w) X.A (storeAll a vs) (fun _ s' => ∃ H', L2.Inv X pins σ H' s' ∧ Q H') X.xe s
  | [], qs, vs, acc, z, s, H, Q, I, O, pr, rv, e, hl, hQ => by
    cases pr
    cases rv
    cases e
    unfold storeAll
    rw [List.forIn_nil]
    exact wpAny_pure ⟨H, I, hQ H ⟨fun _ _ h => h, fun _ _ h => h, fun _ _ _ h => h⟩ (fun _ _ => rfl) O⟩
  | (k, v) :: ps, qs, vs, acc, z, s, H, Q, I, O, pr, rv, e, hl, hQ => by
    cases pr with
    | @cons _ q0 _ qs' r1 t1 =>
    obtain ⟨q1, q2⟩ := q0
    cases rv with
    | @cons _ v0 _ vs' r2 t2 =>
    obtain ⟨u1, u2⟩ := v0
    unfold stoD at e
    cases ek : keyD k with
    | none =>
      rw [ek] at e
      cases e
    | some kk =>
      rw [ek] at e
      simp only at e
      obtain ⟨es, ks, T⟩ := dat_of I O
      obtain ⟨hk1, hk2⟩ := keyD_of ek
      have kv : Kv s kk u1 := ⟨nested_of I _ _ _ _ hk1 r1.1 r2.1, hk2⟩
      have hsz : sizeLine = 16777216 := sizeLine_eq
      simp only [List.length_cons] at hl
      have hput : (putD acc.2 kk k v).length ≤ acc.2.length + 1 := by
        unfold putD
        split <;> simp
      unfold storeAll
      rw [List.forIn_cons]
      have go : ∀ (h' : Heap) (t : Nat) (u : HO), u = .ext (DictObj a (putE es (kk.hash X.w) u1 u2 none) (acc.1 + 1)) ∨ (∃ j, u = .ext (DictObj a (putE es (kk.hash X.w) u1 u2 (some j)) acc.1)) → L2.Inv X pins σ (upd H a u) { s with heap := h', toks := t } →
          OR X.w X.K X.mg ρ (upd H a u) a (.dct (epD acc.1 acc.2 kk) (putD acc.2 kk k v)) → wpAny (model X.prog X.w) X.A (storeAll a vs') (fun _ s' => ∃ H', L2.Inv X pins σ H' s' ∧ Q H') X.xe { s with heap := h', toks := t } := by
        intro h' t u _ I' O'
        have vx : VX ρ H ρ (upd H a u) := vx_dict T.ext
        refine nd_store hu ps qs' vs' (epD acc.1 acc.2 kk, putD acc.2 kk k v) z _ _ Q I' O' (Paired.mapP t1 fun p q hh => ⟨VR.vx vx _ _ hh.1, VR.vx vx _ _ hh.2⟩) t2 e (by simp only; omega) fun H' vx' same O2 => hQ H' ?_ (fun b hb => by rw [same b hb, upd_ne hb]) O2
        exact ⟨fun l b hh => vx'.1 l b (vx.1 l b hh), fun b ws hh => vx'.2 b ws (vx.2 b ws hh), fun b x y hh => vx'.3 b x y (vx.3 b x y hh)⟩
      refine wpAny_bind (wpAny_bind (nd_set (by omega) T.rw kv (by rw [T.size]; exact T.le) (fun hn h' t g1 g2 => wpAny_pure ?_) fun j hj h' t g1 g2 => wpAny_pure ?_))
      · exact go h' t _ (.inl rfl) (T.write I g1 g2) (T.put_none ek r1.1 r2.1 r1.2 r2.2 (by omega) hn)
      · exact go h' t _ (.inr ⟨j, rfl⟩) (T.write I g1 g2) (T.put_some r1.2 r2.2 hj)
theorem de_dct {keys : List (Option Expr)} {values : List Expr} (hu : X.A.units + 150 < cLine) (h : PPd X pos keys values (dP X wr)) (hall : keys.all (·.isSome) = true) (hl : keys.length = values.length) (h0 : keys ≠ []) (h15 : keys.length ≤ 15) :
    PE X (.Dict keys values pos) (dE X (wDct wr)) := by
  refine ⟨fun pins s σ H Q I ⟨ρ, τ, S, R, W, er, h1, p⟩ => ?_⟩
  have hn := I.hok.fresh (Nat.le_refl s.heap.objs.size)
  have I1 := I.laid (a := s.heap.objs.size) (o := .ext (DictObj s.heap.objs.size #[] 0)) (h' := s.heap.push { cls := .type "dict", data := .dict #[] }) (t' := s.toks) (fun _ _ q => Heap.get?_push_of_some _ q) (Nat.le_refl _) (dct_new s.heap)
  have hs := sys_new I.big
  refine wpAny_Dict_any hall hl h0 h15 (thn (h.run pins _ σ _ (fun qs H' => ∃ ρ' S' ps z, Ext ρ (upd H s.heap.objs.size (.ext (DictObj s.heap.objs.size #[] 0))) ρ' H' ∧ XW X ρ' S' H' ∧ Paired (VRp X.K ρ' H') ps qs ∧ ps.length ≤ 1000 ∧ stoD (0, []) ps = some z ∧ R (.loc S'.length) (S' ++ [.dct z.1 z.2])) I1
    ⟨ρ, τ, S, _, W.laid hn, er.ext W.sep (ext_new hn), h1, fun ps S' ⟨e0, z, e1, e2⟩ ρ' H' qs x' W' r' => ⟨ρ', S', ps, z, x', W', r', e0, e1, e2⟩⟩) ?_)
  rintro vs s2 ⟨qs, H', I2, rv, ρ', S', ps, z, x', W', r', hps, e1, e2⟩
  generalize s.heap.objs.size = a at hn I1 hs x' ⊢
  have na : a ∉ ρ := W.notin hn
  have hb : H' a = some (.ext (DictObj a #[] 0)) := x'.keep a _ upd_same na
  have na' : a ∉ ρ' := fun q => by
    obtain ⟨more, e3, e4⟩ := x'.pre
    rw [e3] at q
    rcases List.mem_append.mp q with q | q
    · exact na q
    · have := e4 a q
      rw [upd_same] at this
      cases this
  refine thn (nd_store hu ps qs vs (0, []) z s2 H' (fun H2 => Q (.ref a) H2) I2 (or_empty hs hb) r' rv e1 (by simpa using hps) fun H2 vx same O2 => ?_) fun _ s3 ⟨H2, I3, q⟩ => ⟨.ref a, H2, I3, rfl, q⟩
  obtain ⟨u, hu2⟩ : ∃ u, H2 a = some u := by
    obtain ⟨_, _, _, es, e5, _⟩ := O2
    exact ⟨_, e5⟩
  have eH : H2 = upd H' a u := by
    funext b
    by_cases hba : b = a
    · subst hba
      rw [hu2, upd_same]
    · rw [same b hba, upd_ne hba]
  have W2 : XW X ρ' S' H2 := by
    rw [eH]
    exact W'.aside na' hb (fun vs q => by cases q) fun x y q => by cases q
  have vx2 : VX ρ' H2 (ρ' ++ [a]) H2 := ⟨fun l b hh => by
    rw [List.getElem?_append_left (List.getElem?_eq_some_iff.mp hh).1]
    exact hh, fun _ _ hh => hh, fun _ _ _ hh => hh⟩
  refine p _ _ e2 (ρ' ++ [a]) H2 _ ⟨?_, fun b o hb2 nb => ?_⟩ (W2.adopt na' (O2.vx vx2 fun _ hh => hh)) (.loc (by rw [← W'.len]; exact List.getElem?_concat_length ..))
  · obtain ⟨more, e3, e4⟩ := x'.pre
    refine ⟨more ++ [a], by rw [e3, List.append_assoc], fun b hb2 => ?_⟩
    rcases List.mem_append.mp hb2 with q | q
    · have h5 := e4 b q
      by_cases hba : b = a
      · rw [hba]; exact hn
      · rw [upd_ne hba] at h5
        exact h5
    · rw [List.mem_singleton.mp q]; exact hn
  · have hba : b ≠ a := fun q => by
      rw [q, hn] at hb2
      cases hb2
    rw [same b hba]
    exact x'.keep b o (by rw [upd_ne hba]; exact hb2) nb
end

/-! ### methods of dicts -/
def isDct (S : Sto) (d : D) : Prop := ∃ l ep kvs, d = .loc l ∧ S[l]? = some (.dct ep kvs)
theorem isDct_loc {S : Sto} {l ep : Nat} {kvs : List (D × D)} (h : S[l]? = some (.dct ep kvs)) : isDct S (.loc l) := ⟨l, ep, kvs, rfl, h⟩
def wMtD0 (o : DMt) (we : WE) : WE := fun τ S R => we τ S fun d S1 => isDct S1 d ∧ o d [] S1 R
def wMtD (o : DMt) (we : WE) (wr : WA) : WE := fun τ S R => we τ S fun d S1 => isDct S1 d ∧ wr τ S1 fun ds S2 => o d ds S2 R
section
variable {X : Cx} {o e : Expr} {es : List Expr} {we : WE} {wr : WA} {name : Str} {apos cpos : Pos} {id : String} {op : DMt}
theorem isDct_at {pins : List (Addr × Obj)} {σ : L2.St} {H : Hp} {s : Shared} {ρ : List Addr} {S : Sto} {d : D} {v : V} {u : Value} (I : L2.Inv X pins σ H s) (W : XW X ρ S H) (r : VR X.K ρ H d v) (ru : RelV v u) (h : isDct S d) :
    s.TypeIs u "dict" ∧ ∀ a, u = .ref a → ∃ ob, s.heap.get? a = some ob ∧ ob.dict = none := by
  obtain ⟨l, ep, kvs, rfl, h1⟩ := h
  obtain ⟨a, h3, rfl⟩ := r.loc_of
  cases (show u = Value.ref a from ru)
  obtain ⟨es, ks, T⟩ := dat_of I (W.obj l a _ h3 h1)
  exact ⟨T.rw.ty, T.rw.noDict⟩
theorem de_mtD (slot : Slot "dict" name id) (hty : typeOf (.builtin id) = pure (.type "method_descriptor")) (hm : MtR X id (rMD X op)) (ho : PE X o (dE X we)) (ha : PA X (e :: es) (dA X wr))
    (hbase : attributeBase o name X.env (eval o X.env) = eval o X.env := by rfl)
    (hfew : ((backTo cpos (starEach (e :: es) X.env)).all (fun x => !x.1) && (backToKw cpos (keywordEach [] X.env)).all (fun x => x.1.isSome)
      && decide ((e :: es).length + ([] : List Keyword).length + (if ([] : List Keyword).isEmpty then 0 else 1) < 30)) = true := by rfl)
    (hline : (apos.endLine == cpos.line) = true := by rfl) (hs : starEach (e :: es) X.env = (false, eval e X.env) :: starEach es X.env := by rfl) (hplain : (backTo cpos (starEach es X.env)).any (·.1) = false := by rfl) :
    PE X (.Call (.Attribute o name apos) (e :: es) [] cpos) (dE X (wMtD op we wr)) := by
  refine ⟨fun pins s σ H Q I ⟨ρ, τ, S, R, W, er, h, p⟩ => ?_⟩
  refine wpAny_Call_method_late hbase hfew hline rfl (thn (ho.run pins s σ H (fun x H1 => ∃ ρ1 S1 d, Ext ρ H ρ1 H1 ∧ XW X ρ1 S1 H1 ∧ VR X.K ρ1 H1 d x ∧ isDct S1 d ∧ wr τ S1 fun ds S2 => op d ds S2 R) I
    ⟨ρ, τ, S, _, W, er, h, fun d S1 ⟨h1, h2⟩ ρ1 H1 v x1 W1 r1 => ⟨ρ1, S1, d, x1, W1, r1, h1, h2⟩⟩) fun v s1 ⟨x, H1, I1, rx, ρ1, S1, d, x1, W1, r1, h1, h2⟩ => ?_)
  obtain ⟨g1, g2⟩ := isDct_at I1 W1 r1 rx h1
  refine ⟨"dict", id, PySem.F.plainAttrs_dict, slot, hty, g1, g2, ?_⟩
  have hA := ha.run cpos pins s1 σ H1 (fun vs H2 => rMD X op x vs H2 Q) I1 ⟨ρ1, τ, S1, _, W1, er.ext W.sep x1, h2, fun ds S2 h3 ρ2 H2 vs x2 W2 r2 => ⟨ρ2, S2, d, ds, R, W2, r1.ext W1.sep x2, r2, h3, (p.ext W1 x1).ext W2 x2⟩⟩
  rw [hs] at hA ⊢
  refine Calls.callWith_builtin (by show (false || (backTo cpos (starEach es X.env)).any (·.1)) = false; rw [hplain] <;> rfl) (Calls.evalArgs_plain ?_)
  exact thn hA fun us s2 ⟨vs, H2, I2, r2, q2⟩ => hm pins s2 σ H2 x vs v us Q I2 rx r2 q2
/-- of a value that may be there -/
def eitherD (o : Option D) (f : D → Prop) (g : Prop) : Prop := match o with
  | some v => f v
  | none => g
@[simp] theorem eitherD_some {f : D → Prop} {g : Prop} {v : D} : eitherD (some v) f g = f v := rfl
@[simp] theorem eitherD_none {f : D → Prop} {g : Prop} : eitherD none f g = g := rfl
def dSetdef : DMt := fun d ds S R => ∃ l ep kvs k x dv, d = .loc l ∧ ds = [x, dv] ∧ S[l]? = some (.dct ep kvs) ∧ keyD x = some k ∧ kvs.length < sizeLine ∧ eitherD (lkD kvs k) (fun v => R v S) (R dv (S.set l (.dct (ep + 1) (kvs ++ [(x, dv)]))))
theorem md_setdef (hu : X.A.units + 150 < cLine) : MtR X "dict.setdefault" (rMD X dSetdef) := by
  intro pins s σ H x xs v us Q I rx rs ⟨ρ, S, d, ds, R, W, r1, r2, ⟨l, ep, kvs, k, x', dv, e1, e2, h1, hk, hz, q⟩, p⟩
  subst e1 e2
  obtain ⟨a, h3, rfl⟩ := r1.loc_of
  cases (show v = Value.ref a from rx)
  obtain ⟨es, ks, T⟩ := dat_of I (W.obj l a _ h3 h1)
  obtain ⟨hk1, hk2⟩ := keyD_of hk
  obtain ⟨xv, dvv, rfl, g1, g2⟩ := r2.two_of
  cases rs with
  | @cons _ u _ _ r3 t =>
  cases t with
  | @cons _ du _ _ r4 t2 =>
  cases t2
  have kv : Kv s k u := ⟨nested_of I _ _ _ _ hk1 g1 r3, hk2⟩
  have fin1 : ∀ (j : Nat) (e : DictEntry), ks[j]? = some k → es[j]? = some e → ∀ t, EP X pins σ Q e.val { s with toks := t } := fun j e g5 g6 t => by
    obtain ⟨v2, dv2, g7, g8, g9⟩ := T.get g5 g6
    rw [g7] at q
    exact ⟨dv2, H, I.tok _, g9, p _ _ q ρ H _ (Ext.refl _ _) W g8⟩
  have fin2 : k ∉ ks → ∀ h' t, DictObj a (putE es (k.hash X.w) u du none) (ep + 1) h' → Heap.SameBut a s.heap h' → EP X pins σ Q du { s with heap := h', toks := t } := fun hn h' t g5 g6 => by
    have e1 := lk_none T.keys hn
    rw [e1] at q
    have hO := T.put_none hk g1 r3 g2 r4 hz hn
    have e3 : epD ep kvs k = ep + 1 := by simp [epD, e1]
    have e4 : putD kvs k x' dv = kvs ++ [(x', dv)] := by simp [putD, e1]
    rw [e3, e4] at hO
    exact ⟨dvv, _, T.write I g5 g6, r4, p _ _ q ρ _ _ (ext_write (List.mem_of_getElem? h3)) (W.write h3 hO) (VR.vx (vx_dict T.ext) _ _ g2)⟩
  refine call_meetsIn F.slot_dict_setdefault T.rw.ty F.entry_dict_setdefault (F.args_dict_setdefault_3 _ _ _)
    (S := fun A' q s' => A' = X.A ∧ s' = s ∧ (∀ (j : Nat) (e : DictEntry), ks[j]? = some k → es[j]? = some e → ∀ t, q (.ok (.ret e.val)) { s with toks := t }) ∧ (k ∉ ks → ∀ h' t, DictObj a (putE es (k.hash X.w) u du none) (ep + 1) h' → Heap.SameBut a s.heap h' → q (.ok (.ret du)) { s with heap := h', toks := t }))
    (fun A' q s' hS => ?_) ⟨rfl, rfl, fin1, fin2⟩
  obtain ⟨rfl, rfl, w1, w2⟩ := hS
  unfold Builtin.«dict.setdefault»
  refine wpAny_bind ?_
  unfold Builtin.Dict.keyAndDefault
  refine wpAny_bind (wpAny_notOrdered_dict T.rw.ty ?_)
  show wpAny _ _ (pure (a, u, some du)) _ _ _
  refine wpAny_pure ?_
  show wpAny _ _ (if (a == sysModules) = true then _ else (dictSetDefault a u du >>= _)) _ _ _
  rw [if_neg (by rw [T.sys]; exact Bool.false_ne_true)]
  refine wpAny_bind (nd_setdefault (by show X.A.units + 1 + 8 < cLine; omega) T.rw kv (by rw [T.size]; exact T.le) (fun hn h' t g5 g6 => wpAny_pure (w2 hn h' t g5 g6)) fun j e g5 g6 t => wpAny_pure (w1 j e g5 g6 t))
/-- len(d) -/
def dLenD : DCall := fun ds S R => ∃ l ep kvs, ds = [.loc l] ∧ S[l]? = some (.dct ep kvs) ∧ R (.int (kvs.length : Nat)) S
theorem nd_len {prog : Program} {w : World} {A : Around} {E : Value → Shared → Prop} {s : Shared} {d : Addr} {es : Array DictEntry} {ep : Nat} {Q : Value → Shared → Prop} (hd : (d == sysModules) = false) (hm : DictObj d es ep s.heap) (hfit : es.size < 2 ^ 62)
    (h : ∀ t t', Q (.int es.size t) { s with toks := t' }) : wpAny (model prog w) A (call (.builtin "len") [.ref d]) Q E s := by
  have ty : s.TypeIs (.ref d) "dict" := by
    obtain ⟨o, h1, h2, _⟩ := hm
    exact ⟨o, h1, h2.1⟩
  refine Calls.call_function_entry kind_len plain_len entry_len (args_len1 _) ?_
  unfold Builtin.«len»
  refine wpAny_bind (m := oneArg "len" _) (wpAny_pure ?_)
  refine wpAny_bind (m := callSpecial? (.ref d) (Str.ofString "__len__")) (wpAny_callSpecial?_slot (name := Str.ofString "__len__") ty F.slot_dict_len (call_len_raw hd (show s.heap.DictRaw d es ep from hm) ?_))
  show wpAny _ _ _ _ _ { s with toks := s.toks + 1 }
  refine wpAny_bind (wpAny_holding (wpAny_pure ?_))
  refine wpAny_bind (wpAny_letGo ?_)
  show wpAny _ _ (if ((es.size : Nat) : Int) < 0 then _ else _) _ _ _
  rw [if_neg (by omega)]
  show wpAny _ _ (if ((es.size : Nat) : Int) ≥ 2 ^ 63 then _ else _) _ _ _
  rw [if_neg (by omega)]
  exact wpAny_bind (wpAny_mkInt (wpAny_pure ⟨_, rfl, h _ _⟩))
theorem cd_lenD : CallR X (.builtin "len") (rCD X dLenD) := by
  intro pins s σ H xs us Q I rs ⟨ρ, S, ds, R, W, r, ⟨l, ep, kvs, e1, h1, q⟩, p⟩
  subst e1
  obtain ⟨v, rfl, rv⟩ := r.one_of
  obtain ⟨a, h3, rfl⟩ := rv.loc_of
  cases rs with
  | @cons _ u _ _ r3 t =>
  cases t
  cases (show u = Value.ref a from r3)
  obtain ⟨es, ks, T⟩ := dat_of I (W.obj l a _ h3 h1)
  have hsz : sizeLine = 16777216 := sizeLine_eq
  refine nd_len T.sys T.rw.ob (by rw [T.size]; have := T.le; omega) fun t t' => ⟨.int (kvs.length : Nat), H, I.tok _, ⟨t, by rw [T.size]⟩, p _ _ q ρ H _ (Ext.refl _ _) W .int⟩
end

/-! ### lists, tuples, texts, dicts in one -/
def dIx : DOp := opOr dIxQ dIxD
/-- what == tells, of dicts, too -/
def eqD (S : Sto) (d1 d2 : D) : Option Bool := match d1, d2 with
  | .loc i, .loc j => match S[i]?, S[j]? with
    | some (.dct _ k1), some (.dct _ k2) => eqK k1 k2
    | _, _ => eqQ S d1 d2
  | _, _ => eqQ S d1 d2
def dEq : DOp := fun d1 d2 S R => ∃ b, eqD S d1 d2 = some b ∧ R (.bl b) S
def dNe : DOp := fun d1 d2 S R => ∃ b, eqD S d1 d2 = some b ∧ R (.bl (!b)) S
theorem eqD_or {S : Sto} {d1 d2 : D} {b : Bool} (h : eqD S d1 d2 = some b) : eqQ S d1 d2 = some b ∨ ∃ i j e1 e2 k1 k2, d1 = .loc i ∧ d2 = .loc j ∧ S[i]? = some (.dct e1 k1) ∧ S[j]? = some (.dct e2 k2) ∧ eqK k1 k2 = some b := by
  unfold eqD at h
  split at h
  · rename_i i j
    split at h
    · rename_i e1 k1 e2 k2 h1 h2
      exact .inr ⟨i, j, e1, e2, k1, k2, rfl, rfl, h1, h2, h⟩
    · exact .inl h
  · exact .inl h
def dIn : DOp := opOr dInB dInD
def dNotIn : DOp := opOr dNotInB dNotInD
def dSet : DSet := fun d1 d2 d3 S R => dSetL d1 d2 d3 S R ∨ dSetDct d1 d2 d3 S R
def dLen : DCall := fun ds S R => dLenQ ds S R ∨ dLenD ds S R
section
variable {X : Cx}
theorem od_eq (hu : X.A.units + 150 < cLine) : OpR X (compareOp .Eq) (rD X dEq) := OpR.imp (OpD.or (od_eqQ hu) (od_eqD hu)) fun x y H Q ⟨ρ, S, d1, d2, R, W, r1, r2, ⟨b, e, q⟩, p⟩ =>
  ⟨ρ, S, d1, d2, R, W, r1, r2, (eqD_or e).elim (fun e => .inl ⟨b, e, q⟩) fun ⟨i, j, e1, e2, k1, k2, g1, g2, h1, h2, h3⟩ => .inr ⟨i, j, e1, e2, k1, k2, b, g1, g2, h1, h2, h3, q⟩, p⟩
theorem od_ne (hu : X.A.units + 150 < cLine) : OpR X (compareOp .NotEq) (rD X dNe) := OpR.imp (OpD.or (od_neQ hu) (od_neD hu)) fun x y H Q ⟨ρ, S, d1, d2, R, W, r1, r2, ⟨b, e, q⟩, p⟩ =>
  ⟨ρ, S, d1, d2, R, W, r1, r2, (eqD_or e).elim (fun e => .inl ⟨b, e, q⟩) fun ⟨i, j, e1, e2, k1, k2, g1, g2, h1, h2, h3⟩ => .inr ⟨i, j, e1, e2, k1, k2, b, g1, g2, h1, h2, h3, q⟩, p⟩
theorem od_ix (hu : X.A.units + 150 < cLine) : IxR X (rD X dIx) := IxD.or od_ixQ (od_ixD hu)
theorem od_in (hu : X.A.units + 150 < cLine) : OpR X (compareOp .In) (rD X dIn) := OpD.or (od_inB hu) (od_inD hu)
theorem od_notIn (hu : X.A.units + 150 < cLine) : OpR X (compareOp .NotIn) (rD X dNotIn) := OpD.or (od_notInB hu) (od_notInD hu)
theorem sd_set (hu : X.A.units + 150 < cLine) : PSet X (rSetD X dSet) := PSet.imp (PSet.or sd_setL (sd_setDct hu)) fun o i v H Q ⟨ρ, S, d1, d2, d3, R, W, r1, r2, r3, q, p⟩ => q.imp (fun q => ⟨ρ, S, d1, d2, d3, R, W, r1, r2, r3, q, p⟩) fun q => ⟨ρ, S, d1, d2, d3, R, W, r1, r2, r3, q, p⟩
theorem cd_len : CallR X (.builtin "len") (rCD X dLen) := CallR.imp (CallR.or cd_lenQ cd_lenD) fun xs H Q ⟨ρ, S, ds, R, W, r, q, p⟩ => q.imp (fun q => ⟨ρ, S, ds, R, W, r, q, p⟩) fun q => ⟨ρ, S, ds, R, W, r, q, p⟩
end
end Dl

namespace Dl
open PySem L2

/-! ## running predicate transformers -/
/-- what is wanted behind a statement that others follow -/
def seqE (s' : WS) (E : DEnds) : DEnds := { E with nx := fun τ' S' => s' E τ' S' }
section
variable {τ : DEnv} {S : Sto} {R : DQ} {Rt : Bool → Sto → Prop} {Ra : List D → Sto → Prop} {E : DEnds} {i j : Nat} {d c : D} {w wa wb wc we : WE} {wr : WA} {t u : WT} {s s' : WS} {o o' : DOp} {g : WG} {gs : WGs} {b : Bool} {x y z : Str} {m n k : Int} {ds xs ys : List D}
@[simp] theorem and_asc {p q r : Prop} : ((p ∧ q) ∧ r) ↔ (p ∧ (q ∧ r)) := and_assoc
@[simp ↓] theorem wVar_ap : wVar i τ S R = ∃ d, τ[i]? = some (some d) ∧ R d S := rfl
@[simp ↓] theorem wC_ap : wC d τ S R = R d S := rfl
@[simp ↓] theorem wOp_ap : wOp o wa wb τ S R = wa τ S fun d1 S1 => wb τ S1 fun d2 S2 => o d1 d2 S2 R := rfl
@[simp ↓] theorem wTest_ap : wTest w τ S Rt = w τ S fun d S1 => ∃ b, d = .bl b ∧ Rt b S1 := rfl
@[simp ↓] theorem wChain_ap : wChain o o' wa wb wc τ S R = wa τ S fun d1 S1 => wb τ S1 fun d2 S2 => o d1 d2 S2 fun d S3 => ∃ k, d = .bl k ∧ if k = true then wc τ S3 fun d3 S4 => o' d2 d3 S4 R else R (.bl false) S3 := rfl
@[simp ↓] theorem wTruth_ap : wTruth w τ S Rt = w τ S fun d S1 => ∃ b, truD S1 d = some b ∧ Rt b S1 := rfl
@[simp ↓] theorem wAnd_ap : wAnd t u τ S Rt = t τ S fun c S1 => if c = true then u τ S1 Rt else Rt false S1 := rfl
@[simp ↓] theorem wOr_ap : wOr t u τ S Rt = t τ S fun c S1 => if c = true then Rt true S1 else u τ S1 Rt := rfl
@[simp ↓] theorem wNot_ap : wNot t τ S Rt = t τ S fun c S1 => Rt (!c) S1 := rfl
@[simp ↓] theorem wAndV_ap : wAndV wa wb τ S R = wa τ S fun d S1 => ∃ b, truD S1 d = some b ∧ if b = true then wb τ S1 R else R d S1 := rfl
@[simp ↓] theorem wOrV_ap : wOrV wa wb τ S R = wa τ S fun d S1 => ∃ b, truD S1 d = some b ∧ if b = true then R d S1 else wb τ S1 R := rfl
@[simp ↓] theorem wNotV_ap : wNotV wa τ S R = wa τ S fun d S1 => ∃ b, truD S1 d = some b ∧ R (.bl (!b)) S1 := rfl
@[simp ↓] theorem wIf_ap : wIf t wa wb τ S R = t τ S fun c S1 => if c = true then wa τ S1 R else wb τ S1 R := rfl
@[simp ↓] theorem wNil_ap : wNil τ S Ra = Ra [] S := rfl
@[simp ↓] theorem wCons_ap : wCons wa wr τ S Ra = wa τ S fun d S1 => wr τ S1 fun ds S2 => Ra (d :: ds) S2 := rfl
@[simp ↓] theorem wTup_ap : wTup wr τ S R = wr τ S fun ds S1 => ds.length ≤ sizeLine ∧ R (.tup ds) S1 := rfl
@[simp ↓] theorem wLst_ap : wLst wr τ S R = wr τ S fun ds S1 => ds.length ≤ sizeLine ∧ R (.loc S1.length) (S1 ++ [.lst ds]) := rfl
@[simp ↓] theorem wNoPart_ap {Ro : Option Int → Sto → Prop} : wNoPart τ S Ro = Ro none S := rfl
@[simp ↓] theorem wPart_ap {Ro : Option Int → Sto → Prop} : wPart w τ S Ro = w τ S fun d S1 => ∃ i, d = .int i ∧ Ro (some i) S1 := rfl
@[simp ↓] theorem wSl_ap {o : DSl} {wl wh : WO} : wSl o we wl wh τ S R = we τ S fun d S1 => wl τ S1 fun l S2 => wh τ S2 fun u S3 => o d l u S3 R := rfl
@[simp ↓] theorem wCB_ap {o : DCall} : wCB o wr τ S R = wr τ S fun ds S1 => o ds S1 R := rfl
@[simp ↓] theorem wCall_ap {sp : DSp} : wCall sp wr τ S R = wr τ S fun ds S1 => sp ds S1 R := rfl
@[simp ↓] theorem wIsi_ap {T : String} : wIsi T we τ S R = we τ S fun d S1 => ∃ t b, typD S1 d = some t ∧ kitB t T = some b ∧ R (.bl b) S1 := rfl
@[simp ↓] theorem wNeg_ap : wNeg we τ S R = we τ S fun d S1 => ∃ i, d = .int i ∧ R (.int (-i)) S1 := rfl
@[simp ↓] theorem wMt0_ap {T : String} {o : DMt} : wMt0 T o we τ S R = we τ S fun d S1 => tyD S1 T d ∧ o d [] S1 R := rfl
@[simp ↓] theorem wMt_ap {T : String} {o : DMt} : wMt T o we wr τ S R = we τ S fun d S1 => tyD S1 T d ∧ wr τ S1 fun ds S2 => o d ds S2 R := rfl
@[simp ↓] theorem wSkip_ap : wSkip E τ S = E.nx τ S := rfl
@[simp ↓] theorem wSeq_ap : wSeq s s' E τ S = s (seqE s' E) τ S := rfl
@[simp ↓] theorem seqE_nx : (seqE s' E).nx τ S = s' E τ S := rfl
@[simp ↓] theorem seqE_rt : (seqE s' E).rt = E.rt := rfl
@[simp ↓] theorem seqE_bk : (seqE s' E).bk = E.bk := rfl
@[simp ↓] theorem seqE_ct : (seqE s' E).ct = E.ct := rfl
@[simp ↓] theorem wBreak_ap : wBreak E τ S = E.bk τ S := rfl
@[simp ↓] theorem wCont_ap : wCont E τ S = E.ct τ S := rfl
@[simp ↓] theorem wDrop_ap : wDrop we E τ S = we τ S fun _ S1 => E.nx τ S1 := rfl
@[simp ↓] theorem wRet_ap : wRet we E τ S = we τ S E.rt := rfl
@[simp ↓] theorem wRetN_ap : wRetN E τ S = E.rt .non S := rfl
@[simp ↓] theorem wIfS_ap : wIfS t s s' E τ S = t τ S fun b S1 => if b = true then s E τ S1 else s' E τ S1 := rfl
@[simp ↓] theorem wgName_ap {Rn : DEnv → Sto → Prop} : wgName i d τ S Rn = Rn (τ.set i (some d)) S := rfl
theorem wgNil_ap {Rn : DEnv → Sto → Prop} : wgNil ds τ S Rn = (ds = [] ∧ Rn τ S) := rfl
theorem wgCons_ap {Rn : DEnv → Sto → Prop} : wgCons g gs ds τ S Rn = ∃ d r, ds = d :: r ∧ g d τ S fun τ1 S1 => gs r τ1 S1 Rn := rfl
theorem wgTup_ap {Rn : DEnv → Sto → Prop} {n : Nat} : wgTup n gs d τ S Rn = ∃ ds, d = .tup ds ∧ ds.length = n ∧ gs ds τ S Rn := rfl
@[simp ↓] theorem wgNil_nil {Rn : DEnv → Sto → Prop} : wgNil [] τ S Rn = Rn τ S := by simp [wgNil_ap]
@[simp ↓] theorem wgNil_cons {Rn : DEnv → Sto → Prop} : wgNil (d :: ds) τ S Rn = False := by simp [wgNil_ap]
@[simp ↓] theorem wgCons_cons {Rn : DEnv → Sto → Prop} : wgCons g gs (d :: ds) τ S Rn = g d τ S fun τ1 S1 => gs ds τ1 S1 Rn := by
  rw [wgCons_ap]
  refine propext ⟨fun ⟨d', r', e, h⟩ => ?_, fun h => ⟨_, _, rfl, h⟩⟩
  cases e
  exact h
@[simp ↓] theorem wgTup_tup {Rn : DEnv → Sto → Prop} {n : Nat} : wgTup n gs (.tup ds) τ S Rn = (ds.length = n ∧ gs ds τ S Rn) := by simp [wgTup_ap]
@[simp ↓] theorem wgSub_ap {Rn : DEnv → Sto → Prop} {op : DSet} : wgSub wa wb op d τ S Rn = wa τ S fun d1 S1 => wb τ S1 fun d2 S2 => op d1 d2 d S2 fun S3 => Rn τ S3 := rfl
@[simp ↓] theorem wAsg_ap : wAsg we g E τ S = we τ S fun d S1 => g d τ S1 E.nx := rfl
@[simp ↓] theorem wPar_ap : wPar i j wr E τ S = wr τ S fun ds S1 => ∃ d c, ds = [d, c] ∧ E.nx ((τ.set i (some d)).set j (some c)) S1 := rfl
@[simp ↓] theorem wAug_ap : wAug i we o E τ S = ∃ d, τ[i]? = some (some d) ∧ we τ S fun c S1 => o d c S1 fun z S2 => E.nx (τ.set i (some z)) S2 := rfl
@[simp ↓] theorem wFor_ap {wi : WI} : wFor wi g s E τ S = wi τ S fun items chk S1 => forGo chk g s E items τ S1 := rfl
@[simp ↓] theorem wLc_ap {wi : WI} {vs : List Nat} : wLc wi g t we vs τ S R = wi τ S fun items chk S1 => lcGo chk g t we (wipeD τ vs) R items [] S1 := rfl
@[simp ↓] theorem wYes_ap : wYes τ S Rt = Rt true S := rfl
@[simp ↓] theorem wiAny_ap {Ri : List D → (Sto → Prop) → Sto → Prop} : wiAny we τ S Ri = we τ S fun d S1 => ∃ p, itemsD S1 d = some p ∧ Ri p.1 p.2 S1 := rfl
@[simp ↓] theorem wiRange1_ap {Ri : List D → (Sto → Prop) → Sto → Prop} : wiRange1 wr τ S Ri = wr τ S fun ds S1 => ∃ j : Int, ds = [.int j] ∧ -(2 ^ 62) ≤ j ∧ j < 2 ^ 62 ∧ Ri (rangeD 0 j.toNat) (fun _ => True) S1 := rfl
@[simp ↓] theorem wiRange2_ap {Ri : List D → (Sto → Prop) → Sto → Prop} : wiRange2 wr τ S Ri = wr τ S fun ds S1 => ∃ i j : Int, ds = [.int i, .int j] ∧ (-(2 ^ 62) ≤ i ∧ i < 2 ^ 62 ∧ -(2 ^ 62) ≤ j ∧ j < 2 ^ 62) ∧ Ri (rangeD i (j - i).toNat) (fun _ => True) S1 := rfl
@[simp ↓] theorem wiZip_ap {Ri : List D → (Sto → Prop) → Sto → Prop} : wiZip wr τ S Ri = wr τ S fun ds S1 => ∃ d1 d2, ds = [d1, d2] ∧ ((∃ xs ys, d1 = .tup xs ∧ d2 = .tup ys ∧ Ri (zipD xs ys) (fun S => True ∧ True) S1) ∨
  ∃ p q, lstD S1 d1 = some p ∧ lstD S1 d2 = some q ∧ Ri (zipD p.1 q.1) (fun S => p.2 S ∧ q.2 S) S1) := rfl
@[simp ↓] theorem wiEnum_ap {Ri : List D → (Sto → Prop) → Sto → Prop} : wiEnum wr τ S Ri = wr τ S fun ds S1 => ∃ d p, ds = [d] ∧ lstD S1 d = some p ∧ Ri (enumD p.1) p.2 S1 := rfl

/-! ### the operations -/
@[simp] theorem dAdd_int : dAdd (.int m) (.int n) S R = R (.int (m + n)) S := by simp [dAdd, opOr, dAddI, dAddS, dAddT, dAddL]
@[simp] theorem dAdd_str : dAdd (.str x) (.str y) S R = (x.length + y.length ≤ sizeLine ∧ R (.str (x ++ y)) S) := by simp [dAdd, opOr, dAddI, dAddS, dAddT, dAddL]
@[simp] theorem dAdd_tup : dAdd (.tup xs) (.tup ys) S R = (xs.length + ys.length ≤ sizeLine ∧ R (.tup (xs ++ ys)) S) := by simp [dAdd, opOr, dAddI, dAddS, dAddT, dAddL]
@[simp] theorem dAdd_loc : dAdd (.loc i) (.loc j) S R = ∃ xs ys, S[i]? = some (.lst xs) ∧ S[j]? = some (.lst ys) ∧ xs.length + ys.length ≤ sizeLine ∧ R (.loc S.length) (S ++ [.lst (xs ++ ys)]) := by simp [dAdd, opOr, dAddI, dAddS, dAddT, dAddL]
@[simp] theorem dSub_int : dSub (.int m) (.int n) S R = R (.int (m - n)) S := by simp [dSub]
@[simp] theorem dMul_int : dMul (.int m) (.int n) S R = (CMulW m n ∧ R (.int (m * n)) S) := by simp [dMul, opOr, dMulI, dMulS, dMulL]
@[simp] theorem dMul_str : dMul (.str x) (.int n) S R = (0 ≤ n ∧ n < 2 ^ 62 ∧ x.length * n.toNat ≤ sizeLine ∧ R (.str (repS x n.toNat)) S) := by simp [dMul, opOr, dMulI, dMulS, dMulL]
@[simp] theorem dMod_int : dMod (.int m) (.int n) S R = (n ≠ 0 ∧ R (.int (m.fmod n)) S) := by simp [dMod]
@[simp] theorem dDiv_int : dDiv (.int m) (.int n) S R = (CDivW m n ∧ R (.int (m / n)) S) := by simp [dDiv]
@[simp] theorem dPow_int : dPow (.int m) (.int n) S R = (CPow m n ∧ R (.int (m ^ n.toNat)) S) := by simp [dPow]
@[simp] theorem dLtI_int : dLtI (.int m) (.int n) S R = R (.bl (decide (m < n))) S := by simp [dLtI]
@[simp] theorem dLe_int : dLe (.int m) (.int n) S R = R (.bl (decide (m ≤ n))) S := by simp [dLe]
@[simp] theorem dGt_int : dGt (.int m) (.int n) S R = R (.bl (decide (n < m))) S := by simp [dGt]
@[simp] theorem dGe_int : dGe (.int m) (.int n) S R = R (.bl (decide (n ≤ m))) S := by simp [dGe]
@[simp] theorem dIAdd_int : dIAdd (.int m) (.int n) S R = R (.int (m + n)) S := by simp [dIAdd, opOr, dAddI, dAddS]
@[simp] theorem dIAdd_str : dIAdd (.str x) (.str y) S R = (x.length + y.length ≤ sizeLine ∧ R (.str (x ++ y)) S) := by simp [dIAdd, opOr, dAddI, dAddS]
@[simp] theorem dEq_ap : dEq d c S R = ∃ b, eqD S d c = some b ∧ R (.bl b) S := rfl
@[simp] theorem dNe_ap : dNe d c S R = ∃ b, eqD S d c = some b ∧ R (.bl (!b)) S := rfl
@[simp] theorem dIsN_ap : dIsN d .non S R = R (.bl (isNonD d)) S := by simp [dIsN]
@[simp] theorem dIsNotN_ap : dIsNotN d .non S R = R (.bl (!isNonD d)) S := by simp [dIsNotN]
@[simp] theorem isNonD_non : isNonD .non = true := rfl
@[simp] theorem isNonD_int : isNonD (.int m) = false := rfl
@[simp] theorem isNonD_bl : isNonD (.bl b) = false := rfl
@[simp] theorem isNonD_str : isNonD (.str x) = false := rfl
@[simp] theorem isNonD_tup : isNonD (.tup ds) = false := rfl
@[simp] theorem isNonD_loc : isNonD (.loc i) = false := rfl
@[simp] theorem isNonD_fls : isNonD (.fls ds) = false := rfl
@[simp] theorem truD_non : truD S .non = some false := rfl
@[simp] theorem truD_bl : truD S (.bl b) = some b := rfl
@[simp] theorem truD_int : truD S (.int m) = some (m != 0) := rfl
@[simp] theorem truD_tup : truD S (.tup ds) = some (!ds.isEmpty) := rfl
@[simp] theorem truD_fls : truD S (.fls ds) = some (!ds.isEmpty) := rfl
@[simp] theorem typD_non : typD S .non = some "NoneType" := rfl
@[simp] theorem typD_bl : typD S (.bl b) = some "bool" := rfl
@[simp] theorem typD_int : typD S (.int m) = some "int" := rfl
@[simp] theorem typD_str : typD S (.str x) = some "str" := rfl
@[simp] theorem typD_tup : typD S (.tup ds) = some "tuple" := rfl
@[simp] theorem typD_fls : typD S (.fls ds) = some "list" := rfl
theorem typD_lst (h : S[i]? = some (.lst xs)) : typD S (.loc i) = some "list" := by simp [typD, h]
theorem typD_dct {ep : Nat} {kvs : List (D × D)} (h : S[i]? = some (.dct ep kvs)) : typD S (.loc i) = some "dict" := by simp [typD, h]
@[simp] theorem seqD_tup : seqD S (.tup ds) = some ds := rfl
@[simp] theorem seqD_fls : seqD S (.fls ds) = some ds := rfl
theorem seqD_loc (h : S[i]? = some (.lst xs)) : seqD S (.loc i) = some xs := by simp [seqD, h]
@[simp] theorem seqD_str : seqD S (.str x) = none := rfl
@[simp] theorem itemsD_tup : itemsD S (.tup ds) = some (ds, fun _ => True) := rfl
@[simp] theorem itemsD_fls : itemsD S (.fls ds) = some (ds, fun _ => True) := rfl
@[simp] theorem itemsD_str : itemsD S (.str x) = some (signsD x, fun _ => True) := rfl
theorem itemsD_loc (h : S[i]? = some (.lst xs)) : itemsD S (.loc i) = some (xs, fun S' => S'[i]? = some (.lst xs)) := by simp [itemsD, h]
theorem itemsD_dct {ep : Nat} {kvs : List (D × D)} (h : S[i]? = some (.dct ep kvs)) : itemsD S (.loc i) = some (kvs.map (·.1), fun S' => S'[i]? = some (.dct ep kvs)) := by simp [itemsD, h]
@[simp] theorem lstD_fls : lstD S (.fls ds) = some (ds, fun _ => True) := rfl
@[simp] theorem lstD_tup : lstD S (.tup ds) = none := rfl
theorem lstD_loc (h : S[i]? = some (.lst xs)) : lstD S (.loc i) = some (xs, fun S' => S'[i]? = some (.lst xs)) := by simp [lstD, h]
@[simp] theorem lenD_tup : lenD S (.tup ds) = some ds.length := rfl
@[simp] theorem lenD_fls : lenD S (.fls ds) = some ds.length := rfl
theorem lenD_loc (h : S[i]? = some (.lst xs)) : lenD S (.loc i) = some xs.length := by simp [lenD, seqD_loc h]
theorem lenD_str (h : x.length ≤ sizeLine) : lenD S (.str x) = some x.length := by simp [lenD, h]
theorem lenD_none_dct {ep : Nat} {kvs : List (D × D)} (h : S[i]? = some (.dct ep kvs)) : lenD S (.loc i) = none := by simp [lenD, seqD, h]
@[simp] theorem dLen_tup : dLen [.tup ds] S R = R (.int (ds.length : Nat)) S := by simp [dLen, dLenQ, dLenD, lenD, seqD]
@[simp] theorem dLen_fls : dLen [.fls ds] S R = R (.int (ds.length : Nat)) S := by simp [dLen, dLenQ, dLenD, lenD, seqD]
@[simp] theorem dLen_str : dLen [.str x] S R = (x.length ≤ sizeLine ∧ R (.int (x.length : Nat)) S) := by
  by_cases h : x.length ≤ sizeLine <;> simp [dLen, dLenQ, dLenD, lenD, h]
theorem dLen_loc (h : S[i]? = some (.lst xs)) : dLen [.loc i] S R = R (.int (xs.length : Nat)) S := by simp [dLen, dLenQ, dLenD, lenD, seqD, h]
theorem dLen_dct {ep : Nat} {kvs : List (D × D)} (h : S[i]? = some (.dct ep kvs)) : dLen [.loc i] S R = R (.int (kvs.length : Nat)) S := by simp [dLen, dLenQ, dLenD, lenD, seqD, h]
@[simp] theorem dList_ap : dList [d] S R = ∃ xs, seqD S d = some xs ∧ R (.loc S.length) (S ++ [.lst xs]) := by simp [dList]
@[simp] theorem dTuple_ap : dTuple [d] S R = ∃ xs, seqD S d = some xs ∧ R (.tup xs) S := by simp [dTuple]
@[simp] theorem dMax2_ap : dMax2 [.int m, .int n] S R = R (.int (if n > m then n else m)) S := by simp [dMax2, and_assoc]
@[simp] theorem dMin2_ap : dMin2 [.int m, .int n] S R = R (.int (if n < m then n else m)) S := by simp [dMin2, and_assoc]
@[simp] theorem dAll_ap : dAll [d] S R = ∃ p bs, lstD S d = some p ∧ blsD p.1 = some bs ∧ R (.bl (bs.all id)) S := by simp [dAll]
@[simp] theorem dAny_ap : dAny [d] S R = ∃ p bs, lstD S d = some p ∧ blsD p.1 = some bs ∧ R (.bl (bs.any id)) S := by simp [dAny]
@[simp] theorem dIx_tup : dIx (.tup ds) (.int m) S R = ∃ d, atI ds m = some d ∧ R d S := by simp [dIx, opOr, dIxQ, dIxD]
@[simp] theorem dIx_fls : dIx (.fls ds) (.int m) S R = ∃ d, atI ds m = some d ∧ R d S := by simp [dIx, opOr, dIxQ, dIxD]
@[simp] theorem dIx_str : dIx (.str x) (.int m) S R = ∃ c, x.length ≤ sizeLine ∧ atI x.cps.toList m = some c ∧ R (.str ⟨#[c]⟩) S := by simp [dIx, opOr, dIxQ, dIxD]
theorem dIx_loc (h : S[i]? = some (.lst xs)) : dIx (.loc i) (.int m) S R = ∃ d, atI xs m = some d ∧ R d S := by simp [dIx, opOr, dIxQ, dIxD, seqD_loc h, h]
theorem dIx_dct {ep : Nat} {kvs : List (D × D)} (h : S[i]? = some (.dct ep kvs)) : dIx (.loc i) d S R = ∃ k v, keyD d = some k ∧ lkD kvs k = some v ∧ R v S := by simp [dIx, opOr, dIxQ, dIxD, seqD, h]
@[simp] theorem dSl_tup {lo hi : Option Int} : dSl (.tup ds) lo hi S R = R (.tup (cutD ds lo hi)) S := by simp [dSl, slOr, dSlL, dSlT, dSlS]
@[simp] theorem dSl_str {lo hi : Option Int} : dSl (.str x) lo hi S R = (x.length ≤ sizeLine ∧ R (.str (cutS x lo hi)) S) := by simp [dSl, slOr, dSlL, dSlT, dSlS, lstD]
theorem dSl_loc {lo hi : Option Int} (h : S[i]? = some (.lst xs)) : dSl (.loc i) lo hi S R = R (.loc S.length) (S ++ [.lst (cutD xs lo hi)]) := by simp [dSl, slOr, dSlL, dSlT, dSlS, lstD_loc h]
theorem dSet_loc {Rs : Sto → Prop} (h : S[i]? = some (.lst xs)) : dSet (.loc i) (.int m) d S Rs = ∃ j, ixN xs.length m = some j ∧ Rs (S.set i (.lst (xs.set j d))) := by simp [dSet, dSetL, dSetDct, h]
theorem dSet_dct {Rs : Sto → Prop} {ep : Nat} {kvs : List (D × D)} (h : S[i]? = some (.dct ep kvs)) : dSet (.loc i) c d S Rs = ∃ k, keyD c = some k ∧ kvs.length < sizeLine ∧ Rs (S.set i (.dct (epD ep kvs k) (putD kvs k c d))) := by simp [dSet, dSetL, dSetDct, h]
theorem dSetL_loc {Rs : Sto → Prop} (h : S[i]? = some (.lst xs)) : dSetL (.loc i) (.int m) d S Rs = ∃ j, ixN xs.length m = some j ∧ Rs (S.set i (.lst (xs.set j d))) := by simp [dSetL, h]
theorem dAppend_loc (h : S[i]? = some (.lst xs)) : dAppend (.loc i) [d] S R = (xs.length < sizeLine ∧ R .non (S.set i (.lst (xs ++ [d])))) := by simp [dAppend, h]
theorem tyD_loc (h : S[i]? = some (.lst xs)) : tyD S "list" (.loc i) := ⟨xs, rfl, h⟩
@[simp] theorem tyD_str : tyD S "str" (.str x) := rfl
@[simp] theorem startD_0 {n : Nat} : startD n [] = List.replicate n none := by simp [startD]
/-! ### places -/
theorem atI_nn {α : Type} {xs : List α} {m : Int} (h0 : 0 ≤ m) : atI xs m = xs[m.toNat]? := by
  unfold atI ixN
  rw [if_pos h0]
  by_cases h : m < xs.length
  · rw [if_pos h]
    rfl
  · rw [if_neg h]
    have : xs.length ≤ m.toNat := by omega
    rw [List.getElem?_eq_none this]
    rfl
@[simp] theorem atI_0 {α : Type} {xs : List α} : atI xs 0 = xs[0]? := atI_nn (by decide)
@[simp] theorem atI_1 {α : Type} {xs : List α} : atI xs 1 = xs[1]? := atI_nn (by decide)
@[simp] theorem atI_2 {α : Type} {xs : List α} : atI xs 2 = xs[2]? := atI_nn (by decide)
@[simp] theorem atI_3 {α : Type} {xs : List α} : atI xs 3 = xs[3]? := atI_nn (by decide)
@[simp] theorem atI_4 {α : Type} {xs : List α} : atI xs 4 = xs[4]? := atI_nn (by decide)
@[simp] theorem atI_5 {α : Type} {xs : List α} : atI xs 5 = xs[5]? := atI_nn (by decide)
@[simp] theorem atI_6 {α : Type} {xs : List α} : atI xs 6 = xs[6]? := atI_nn (by decide)
@[simp] theorem atI_7 {α : Type} {xs : List α} : atI xs 7 = xs[7]? := atI_nn (by decide)
@[simp] theorem atI_8 {α : Type} {xs : List α} : atI xs 8 = xs[8]? := atI_nn (by decide)
@[simp] theorem atI_9 {α : Type} {xs : List α} : atI xs 9 = xs[9]? := atI_nn (by decide)
@[simp] theorem ixN_0 {n : Nat} : ixN n 0 = if 0 < n then some 0 else none := by
  unfold ixN
  rw [if_pos (by decide)]
  by_cases h : 0 < n
  · rw [if_pos h, if_pos (by omega)]
    rfl
  · rw [if_neg h, if_neg (by omega)]
@[simp] theorem ixN_1 {n : Nat} : ixN n 1 = if 1 < n then some 1 else none := by
  unfold ixN
  rw [if_pos (by decide)]
  by_cases h : 1 < n
  · rw [if_pos h, if_pos (by omega)]
    rfl
  · rw [if_neg h, if_neg (by omega)]
@[simp] theorem ixN_2 {n : Nat} : ixN n 2 = if 2 < n then some 2 else none := by
  unfold ixN
  rw [if_pos (by decide)]
  by_cases h : 2 < n
  · rw [if_pos h, if_pos (by omega)]
    rfl
  · rw [if_neg h, if_neg (by omega)]
@[simp] theorem ixN_3 {n : Nat} : ixN n 3 = if 3 < n then some 3 else none := by
  unfold ixN
  rw [if_pos (by decide)]
  by_cases h : 3 < n
  · rw [if_pos h, if_pos (by omega)]
    rfl
  · rw [if_neg h, if_neg (by omega)]
@[simp] theorem ixN_4 {n : Nat} : ixN n 4 = if 4 < n then some 4 else none := by
  unfold ixN
  rw [if_pos (by decide)]
  by_cases h : 4 < n
  · rw [if_pos h, if_pos (by omega)]
    rfl
  · rw [if_neg h, if_neg (by omega)]
@[simp] theorem ixN_5 {n : Nat} : ixN n 5 = if 5 < n then some 5 else none := by
  unfold ixN
  rw [if_pos (by decide)]
  by_cases h : 5 < n
  · rw [if_pos h, if_pos (by omega)]
    rfl
  · rw [if_neg h, if_neg (by omega)]
@[simp] theorem atI_neg1 {α : Type} {xs : List α} : atI xs (-1) = xs[xs.length - 1]? := by
  unfold atI ixN
  rw [if_neg (by decide)]
  by_cases h : xs = []
  · subst h
    rfl
  · have : 1 ≤ xs.length := by
      cases xs with
      | nil => exact absurd rfl h
      | cons _ _ => simp
    rw [if_pos (by omega)]
    have e : (-1 + (xs.length : Int)).toNat = xs.length - 1 := by omega
    rw [e]
    rfl
/-- two factors of less than 2 ^ a, 2 ^ b -/
theorem cmul_of {i j : Int} (a b : Nat) (ha : i.natAbs < 2 ^ a) (hb : j.natAbs < 2 ^ b) (h0 : 0 < a) (h1 : 0 < b) (h : a + b ≤ 1000000) : CMulW i j := wide_mul ha hb h0 h1 h
theorem kitB_self (s : String) : kitB s s = some true := by
  unfold kitB
  rw [if_pos (by simp)]
end

/-! ### loops -/
theorem forGo_nil {chk : Sto → Prop} {g : WG} {b : WS} {R : DEnds} {τ : DEnv} {S : Sto} : forGo chk g b R [] τ S = (chk S ∧ R.nx τ S) := rfl
theorem forGo_cons {chk : Sto → Prop} {g : WG} {b : WS} {R : DEnds} {d : D} {r : List D} {τ : DEnv} {S : Sto} : forGo chk g b R (d :: r) τ S =
  (chk S ∧ g d τ S fun τ1 S1 => b { nx := fun τ' S' => forGo chk g b R r τ' S', ct := fun τ' S' => forGo chk g b R r τ' S', bk := R.nx, rt := R.rt } τ1 S1) := rfl
/-- a for by an invariant over the items that are left; N: what the turn is to reach -/
theorem forGo_ind {chk : Sto → Prop} {g : WG} {b : WS} {R : DEnds} (I : List D → DEnv → Sto → Prop) (h0 : ∀ τ S, I [] τ S → chk S ∧ R.nx τ S)
    (hs : ∀ d r τ S (N : DEnv → Sto → Prop), I (d :: r) τ S → (∀ τ' S', I r τ' S' → N τ' S') → chk S ∧ g d τ S fun τ1 S1 => b { nx := N, ct := N, bk := R.nx, rt := R.rt } τ1 S1) :
    ∀ (items : List D) (τ : DEnv) (S : Sto), I items τ S → forGo chk g b R items τ S
  | [], τ, S, h => h0 τ S h
  | d :: r, τ, S, h => hs d r τ S _ h fun τ' S' h' => forGo_ind I h0 hs r τ' S' h'
theorem forGo_run {chk : Sto → Prop} {g : WG} {b : WS} {R : DEnds} {items : List D} {τ : DEnv} {S : Sto} (I : List D → DEnv → Sto → Prop) (hi : I items τ S) (h0 : ∀ τ S, I [] τ S → chk S ∧ R.nx τ S)
    (hs : ∀ d r τ S (N : DEnv → Sto → Prop), I (d :: r) τ S → (∀ τ' S', I r τ' S' → N τ' S') → chk S ∧ g d τ S fun τ1 S1 => b { nx := N, ct := N, bk := R.nx, rt := R.rt } τ1 S1) :
    forGo chk g b R items τ S := forGo_ind I h0 hs items τ S hi
/-- a comprehension by an invariant over the items left, what is made so far, the store -/
theorem lcGo_run {chk : Sto → Prop} {g : WG} {t : WT} {e : WE} {τ : DEnv} {R : DQ} {items acc : List D} {S : Sto} (I : List D → List D → Sto → Prop) (hi : I items acc S) (h0 : ∀ acc S, I [] acc S → chk S ∧ R (.loc S.length) (S ++ [.lst acc]))
    (hs : ∀ d r acc S (N : List D → Sto → Prop), I (d :: r) acc S → (∀ acc' S', I r acc' S' → N acc' S') → chk S ∧ g d τ S fun τ1 S1 => t τ1 S1 fun b S2 => if b = true then e τ1 S2 fun y S3 => acc.length < sizeLine ∧ N (acc ++ [y]) S3 else N acc S2) :
    lcGo chk g t e τ R items acc S := by
  induction items generalizing acc S with
  | nil => exact h0 acc S hi
  | cons d r ih => exact hs d r acc S _ hi fun acc' S' h' => ih h'

/-! ## stores that grow -/
/-- what stood stands -/
def Le (S S' : Sto) : Prop := ∀ (j : Nat) (o : O), S[j]? = some o → S'[j]? = some o
theorem Le.refl (S : Sto) : Le S S := fun _ _ h => h
theorem Le.trans {S S1 S2 : Sto} (a : Le S S1) (b : Le S1 S2) : Le S S2 := fun j o h => b j o (a j o h)
theorem Le.app (S T : Sto) : Le S (S ++ T) := fun j o h => by
  rw [List.getElem?_append_left (List.getElem?_eq_some_iff.mp h).1]
  exact h
theorem Le.len {S S' : Sto} (h : Le S S') : S.length ≤ S'.length := by
  cases hn : S.length with
  | zero => omega
  | succ n =>
    have : S[n]? = some S[n] := List.getElem?_eq_getElem (by omega)
    have := (List.getElem?_eq_some_iff.mp (h n _ this)).1
    omega
/-- all but the object at l -/
def LeX (l : Nat) (S S' : Sto) : Prop := S.length ≤ S'.length ∧ ∀ (j : Nat) (o : O), j ≠ l → S[j]? = some o → S'[j]? = some o
theorem LeX.refl (l : Nat) (S : Sto) : LeX l S S := ⟨Nat.le_refl _, fun _ _ _ h => h⟩
theorem LeX.trans {l : Nat} {S S1 S2 : Sto} (a : LeX l S S1) (b : LeX l S1 S2) : LeX l S S2 := ⟨Nat.le_trans a.1 b.1, fun j o n h => b.2 j o n (a.2 j o n h)⟩
theorem Le.x {S S' : Sto} (l : Nat) (h : Le S S') : LeX l S S' := ⟨h.len, fun j o _ e => h j o e⟩
theorem LeX.set {l : Nat} {S : Sto} {o : O} : LeX l S (S.set l o) := ⟨by simp, fun j o' n h => by
  rw [List.getElem?_set_ne (Ne.symm n)]
  exact h⟩
theorem get_set {S : Sto} {l : Nat} {o o' : O} (h : S[l]? = some o) : (S.set l o')[l]? = some o' := by
  rw [List.getElem?_set_self (List.getElem?_eq_some_iff.mp h).1]
theorem get_app {S T : Sto} {l : Nat} {o : O} (h : S[l]? = some o) : (S ++ T)[l]? = some o := Le.app S T l o h
@[simp] theorem get_new {S : Sto} {o : O} : (S ++ [o])[S.length]? = some o := List.getElem?_concat_length ..
theorem lt_of_get {S : Sto} {l : Nat} {o : O} (h : S[l]? = some o) : l < S.length := (List.getElem?_eq_some_iff.mp h).1
end Dl

namespace Dl
open PySem L2

/-! ## == of plain values -/
noncomputable instance : DecidableEq D := fun a b => Classical.propDecidable _
mutual
/-- whole numbers, texts, None and tuples of these, at most so deep -/
def plainD : Nat → D → Bool
  | _, .non => true
  | _, .int _ => true
  | _, .str _ => true
  | 0, .tup ds => false
  | n + 1, .tup ds => decide (ds.length ≤ 100000) && plainsD n ds
  | _, .bl _ => false
  | _, .fls _ => false
  | _, .loc _ => false
def plainsD : Nat → List D → Bool
  | _, [] => true
  | n, d :: ds => plainD n d && plainsD n ds
end
theorem plainD_tup {n : Nat} {ds : List D} : plainD (n + 1) (.tup ds) = true ↔ ds.length ≤ 100000 ∧ plainsD n ds = true := by simp [plainD]
mutual
theorem key_plain : ∀ (n : Nat) (d : D), plainD n d = true → ∃ k, keyOf d = some k ∧ k.depth ≤ n
  | n, .non, _ => ⟨.none, rfl, Nat.zero_le _⟩
  | n, .int i, _ => ⟨.num i, rfl, Nat.zero_le _⟩
  | n, .str x, _ => ⟨.text x, rfl, Nat.zero_le _⟩
  | 0, .tup ds, h => by simp [plainD] at h
  | n + 1, .tup ds, h => by
    obtain ⟨ks, h1, h2⟩ := keys_plain n ds (plainD_tup.mp h).2
    refine ⟨.tup ks, ?_, ?_⟩
    · show (keyOf.keysOf ds).map NestedKey.tup = _
      rw [h1]
      rfl
    · simp only [NestedKey.depth]
      omega
  | n, .bl _, h => by simp [plainD] at h
  | n, .fls _, h => by simp [plainD] at h
  | n, .loc _, h => by simp [plainD] at h
theorem keys_plain : ∀ (n : Nat) (ds : List D), plainsD n ds = true → ∃ ks, keyOf.keysOf ds = some ks ∧ NestedKey.depthAll ks ≤ n
  | n, [], _ => ⟨[], rfl, Nat.zero_le _⟩
  | n, d :: ds, h => by
    simp only [plainsD, Bool.and_eq_true] at h
    obtain ⟨k, h1, h2⟩ := key_plain n d h.1
    obtain ⟨ks, h3, h4⟩ := keys_plain n ds h.2
    refine ⟨k :: ks, ?_, ?_⟩
    · unfold keyOf.keysOf
      rw [h1, h3]
    · simp only [NestedKey.depthAll]
      omega
end
mutual
theorem key_inj : ∀ (n : Nat) (d c : D) (k : NestedKey), plainD n d = true → plainD n c = true → keyOf d = some k → keyOf c = some k → d = c
  | n, d, c, k, hd, hc, h1, h2 => by
    cases d with
    | non =>
      cases (show some NestedKey.none = some k from h1)
      cases c with
      | non => rfl
      | int _ => cases (show some (NestedKey.num _) = some NestedKey.none from h2)
      | str _ => cases (show some (NestedKey.text _) = some NestedKey.none from h2)
      | tup cs =>
        have h3 : (keyOf.keysOf cs).map NestedKey.tup = some NestedKey.none := h2
        cases e : keyOf.keysOf cs with
        | none => rw [e] at h3; cases h3
        | some ks => rw [e] at h3; cases h3
      | bl _ => simp [plainD] at hc
      | fls _ => simp [plainD] at hc
      | loc _ => simp [plainD] at hc
    | int i =>
      cases (show some (NestedKey.num i) = some k from h1)
      cases c with
      | non => cases (show some NestedKey.none = some (NestedKey.num i) from h2)
      | int j =>
        have := Option.some.inj (show some (NestedKey.num j) = some (NestedKey.num i) from h2)
        cases this
        rfl
      | str _ => cases (show some (NestedKey.text _) = some (NestedKey.num i) from h2)
      | tup cs =>
        have h3 : (keyOf.keysOf cs).map NestedKey.tup = some (NestedKey.num i) := h2
        cases e : keyOf.keysOf cs with
        | none => rw [e] at h3; cases h3
        | some ks => rw [e] at h3; cases h3
      | bl _ => simp [plainD] at hc
      | fls _ => simp [plainD] at hc
      | loc _ => simp [plainD] at hc
    | str x =>
      cases (show some (NestedKey.text x) = some k from h1)
      cases c with
      | non => cases (show some NestedKey.none = some (NestedKey.text x) from h2)
      | int j => cases (show some (NestedKey.num j) = some (NestedKey.text x) from h2)
      | str y =>
        have := Option.some.inj (show some (NestedKey.text y) = some (NestedKey.text x) from h2)
        cases this
        rfl
      | tup cs =>
        have h3 : (keyOf.keysOf cs).map NestedKey.tup = some (NestedKey.text x) := h2
        cases e : keyOf.keysOf cs with
        | none => rw [e] at h3; cases h3
        | some ks => rw [e] at h3; cases h3
      | bl _ => simp [plainD] at hc
      | fls _ => simp [plainD] at hc
      | loc _ => simp [plainD] at hc
    | tup ds =>
      have h3 : (keyOf.keysOf ds).map NestedKey.tup = some k := h1
      cases e : keyOf.keysOf ds with
      | none => rw [e] at h3; cases h3
      | some ks =>
        rw [e] at h3
        cases h3
        cases c with
        | non => cases (show some NestedKey.none = some (NestedKey.tup ks) from h2)
        | int j => cases (show some (NestedKey.num j) = some (NestedKey.tup ks) from h2)
        | str y => cases (show some (NestedKey.text y) = some (NestedKey.tup ks) from h2)
        | tup cs =>
          have h4 : (keyOf.keysOf cs).map NestedKey.tup = some (NestedKey.tup ks) := h2
          cases e2 : keyOf.keysOf cs with
          | none => rw [e2] at h4; cases h4
          | some ks' =>
            rw [e2] at h4
            cases h4
            cases n with
            | zero => simp [plainD] at hd
            | succ n =>
              rw [keys_inj n ds cs ks (plainD_tup.mp hd).2 (plainD_tup.mp hc).2 e e2]
        | bl _ => simp [plainD] at hc
        | fls _ => simp [plainD] at hc
        | loc _ => simp [plainD] at hc
    | bl _ => simp [plainD] at hd
    | fls _ => simp [plainD] at hd
    | loc _ => simp [plainD] at hd
theorem keys_inj : ∀ (n : Nat) (ds cs : List D) (ks : List NestedKey), plainsD n ds = true → plainsD n cs = true → keyOf.keysOf ds = some ks → keyOf.keysOf cs = some ks → ds = cs
  | n, ds, cs, ks, hd, hc, h1, h2 => by
    cases ds with
    | nil =>
      cases (show some [] = some ks from h1)
      cases cs with
      | nil => rfl
      | cons c cs =>
        unfold keyOf.keysOf at h2
        cases e1 : keyOf c with
        | none => rw [e1] at h2; cases h2
        | some k =>
          cases e2 : keyOf.keysOf cs with
          | none => rw [e1, e2] at h2; cases h2
          | some ks => rw [e1, e2] at h2; cases h2
    | cons d ds =>
      unfold keyOf.keysOf at h1
      cases e1 : keyOf d with
      | none => rw [e1] at h1; cases h1
      | some k =>
        cases e2 : keyOf.keysOf ds with
        | none => rw [e1, e2] at h1; cases h1
        | some ks1 =>
          rw [e1, e2] at h1
          cases h1
          cases cs with
          | nil => cases (show some [] = some (k :: ks1) from h2)
          | cons c cs =>
            unfold keyOf.keysOf at h2
            cases e3 : keyOf c with
            | none => rw [e3] at h2; cases h2
            | some k' =>
              cases e4 : keyOf.keysOf cs with
              | none => rw [e3, e4] at h2; cases h2
              | some ks' =>
                rw [e3, e4] at h2
                cases h2
                simp only [plainsD, Bool.and_eq_true] at hd hc
                rw [key_inj n d c k hd.1 hc.1 e1 e3, keys_inj n ds cs ks1 hd.2 hc.2 e2 e4]
end
theorem keyOf_some_none {d : D} : plainD 100 d = true → keyOf d ≠ none := fun h e => by
  obtain ⟨k, h1, _⟩ := key_plain 100 d h
  rw [e] at h1
  cases h1
theorem eqD_q {S : Sto} {d c : D} (h : (∀ i, d ≠ .loc i) ∨ ∀ i, c ≠ .loc i) : eqD S d c = eqQ S d c := by
  unfold eqD
  split
  · rename_i i j
    rcases h with h | h
    · exact absurd rfl (h i)
    · exact absurd rfl (h j)
  · rfl
theorem plain_loc {n : Nat} {d : D} (h : plainD n d = true) : ∀ i, d ≠ .loc i := fun i e => by
  rw [e] at h
  simp [plainD] at h
/-- == of plain values is being the same -/
theorem eqD_plain {S : Sto} {d c : D} (hd : plainD 100 d = true) (hc : plainD 100 c = true) : eqD S d c = some (decide (d = c)) := by
  obtain ⟨k1, h1, h2⟩ := key_plain 100 d hd
  obtain ⟨k2, h3, h4⟩ := key_plain 100 c hc
  rw [eqD_q (.inl (plain_loc hd))]
  unfold eqQ
  simp only [h1, h3]
  rw [if_pos (by omega)]
  congr 1
  cases e : NestedKey.beq k1 k2 with
  | true =>
    have e2 := NestedKey.eq_of_beq k1 k2 e
    subst e2
    exact (decide_eq_true (key_inj 100 d c k1 hd hc h1 h3)).symm
  | false =>
    refine (decide_eq_false fun z => ?_).symm
    subst z
    rw [h1] at h3
    cases h3
    rw [NestedKey.beq_self] at e
    cases e
theorem beqAll_plain {n : Nat} {ds cs : List D} {k1 k2 : List NestedKey} (hd : plainsD n ds = true) (hc : plainsD n cs = true) (h1 : keyOf.keysOf ds = some k1) (h2 : keyOf.keysOf cs = some k2) : NestedKey.beqAll k1 k2 = decide (ds = cs) := by
  cases e : NestedKey.beqAll k1 k2 with
  | true =>
    have e2 := NestedKey.eq_of_beqAll k1 k2 e
    subst e2
    exact (decide_eq_true (keys_inj n ds cs k1 hd hc h1 h2)).symm
  | false =>
    refine (decide_eq_false fun z => ?_).symm
    subst z
    rw [h1] at h2
    cases h2
    rw [NestedKey.beqAll_self] at e
    cases e
theorem depth_plain {ds : List D} {ks : List NestedKey} (hd : plainsD 100 ds = true) (h : keyOf.keysOf ds = some ks) : NestedKey.depthAll ks ≤ 100 := by
  obtain ⟨ks', h1, h2⟩ := keys_plain 100 ds hd
  rw [h] at h1
  cases h1
  exact h2
theorem eqD_lsts {S : Sto} {i j : Nat} {xs ys : List D} (hi : S[i]? = some (.lst xs)) (hj : S[j]? = some (.lst ys)) (hx : plainsD 100 xs = true) (hy : plainsD 100 ys = true) : eqD S (.loc i) (.loc j) = some (decide (xs = ys)) := by
  obtain ⟨k1, h1, _⟩ := keys_plain 100 xs hx
  obtain ⟨k2, h2, _⟩ := keys_plain 100 ys hy
  have e0 : eqD S (.loc i) (.loc j) = eqQ S (.loc i) (.loc j) := by simp [eqD, hi, hj]
  have d1 := depth_plain hx h1
  have kl : ∀ z, keyOf (.loc z) = none := fun _ => rfl
  rw [e0]
  unfold eqQ
  simp only [kl, lstD, hi, hj, h1, h2]
  rw [if_pos (by omega), beqAll_plain hx hy h1 h2]
@[simp] theorem eqD_int {S : Sto} {m n : Int} : eqD S (.int m) (.int n) = some (decide (m = n)) := by
  rw [eqD_plain (by simp [plainD]) (by simp [plainD])]
  simp
@[simp] theorem eqD_str {S : Sto} {x y : Str} : eqD S (.str x) (.str y) = some (decide (x = y)) := by
  rw [eqD_plain (by simp [plainD]) (by simp [plainD])]
  simp
@[simp] theorem eqD_int_str {S : Sto} {m : Int} {y : Str} : eqD S (.int m) (.str y) = some false := by
  rw [eqD_plain (by simp [plainD]) (by simp [plainD])]
  simp
@[simp] theorem eqD_str_int {S : Sto} {m : Int} {y : Str} : eqD S (.str y) (.int m) = some false := by
  rw [eqD_plain (by simp [plainD]) (by simp [plainD])]
  simp
@[simp] theorem eqD_bl {S : Sto} {a b : Bool} : eqD S (.bl a) (.bl b) = some (decide (a = b)) := by
  cases a <;> cases b <;> rfl
mutual
theorem plain_mono : ∀ {n m : Nat} (d : D), n ≤ m → plainD n d = true → plainD m d = true
  | n, m, .non, _, _ => by simp [plainD]
  | n, m, .int _, _, _ => by simp [plainD]
  | n, m, .str _, _, _ => by simp [plainD]
  | 0, m, .tup ds, _, h => by simp [plainD] at h
  | n + 1, 0, .tup ds, hm, _ => by omega
  | n + 1, m + 1, .tup ds, hm, h => by
    exact plainD_tup.mpr ⟨(plainD_tup.mp h).1, plains_mono ds (by omega) (plainD_tup.mp h).2⟩
  | n, m, .bl _, _, h => by simp [plainD] at h
  | n, m, .fls _, _, h => by simp [plainD] at h
  | n, m, .loc _, _, h => by simp [plainD] at h
theorem plains_mono : ∀ {n m : Nat} (ds : List D), n ≤ m → plainsD n ds = true → plainsD m ds = true
  | n, m, [], _, _ => by simp [plainsD]
  | n, m, d :: ds, hm, h => by
    simp only [plainsD, Bool.and_eq_true] at h ⊢
    exact ⟨plain_mono d hm h.1, plains_mono ds hm h.2⟩
end
theorem plains_mem {n : Nat} : ∀ {ds : List D} {d : D}, plainsD n ds = true → d ∈ ds → plainD n d = true
  | [], _, _, h => by cases h
  | c :: cs, d, hp, h => by
    simp only [plainsD, Bool.and_eq_true] at hp
    rcases List.mem_cons.mp h with e | h
    · rw [e]; exact hp.1
    · exact plains_mem hp.2 h
theorem plains_of {n : Nat} : ∀ {ds : List D}, (∀ d ∈ ds, plainD n d = true) → plainsD n ds = true
  | [], _ => by simp [plainsD]
  | c :: cs, h => by
    simp only [plainsD, Bool.and_eq_true]
    exact ⟨h c List.mem_cons_self, plains_of fun d hd => h d (List.mem_cons_of_mem _ hd)⟩

theorem blsD_map : ∀ bs : List Bool, blsD (bs.map D.bl) = some bs
  | [] => rfl
  | b :: bs => by
    simp [blsD, blsD_map bs]
theorem zipD_nil {us ws : List D} (h : [] = zipD us ws) (hl : us.length = ws.length) : us = [] ∧ ws = [] := by
  cases us with
  | nil => cases ws with
    | nil => exact ⟨rfl, rfl⟩
    | cons _ _ => simp at hl
  | cons _ _ => cases ws with
    | nil => simp at hl
    | cons _ _ => simp [zipD] at h
theorem zipD_cons {d : D} {r us ws : List D} (h : d :: r = zipD us ws) : ∃ u us' w ws', us = u :: us' ∧ ws = w :: ws' ∧ d = .tup [u, w] ∧ r = zipD us' ws' := by
  cases us with
  | nil => simp [zipD] at h
  | cons u us => cases ws with
    | nil => simp [zipD] at h
    | cons w ws =>
      simp [zipD] at h
      exact ⟨u, us, w, ws, rfl, rfl, h.1, h.2⟩
/-! ## isinstance -/
@[simp] theorem kitB_NoneType_bool : kitB "NoneType" "bool" = some false := by decide +kernel
@[simp] theorem kitB_NoneType_int : kitB "NoneType" "int" = some false := by decide +kernel
@[simp] theorem kitB_NoneType_str : kitB "NoneType" "str" = some false := by decide +kernel
@[simp] theorem kitB_NoneType_tuple : kitB "NoneType" "tuple" = some false := by decide +kernel
@[simp] theorem kitB_NoneType_list : kitB "NoneType" "list" = some false := by decide +kernel
@[simp] theorem kitB_NoneType_dict : kitB "NoneType" "dict" = some false := by decide +kernel
@[simp] theorem kitB_bool_bool : kitB "bool" "bool" = some true := by decide +kernel
@[simp] theorem kitB_bool_int : kitB "bool" "int" = some true := by decide +kernel
@[simp] theorem kitB_bool_str : kitB "bool" "str" = some false := by decide +kernel
@[simp] theorem kitB_bool_tuple : kitB "bool" "tuple" = some false := by decide +kernel
@[simp] theorem kitB_bool_list : kitB "bool" "list" = some false := by decide +kernel
@[simp] theorem kitB_bool_dict : kitB "bool" "dict" = some false := by decide +kernel
@[simp] theorem kitB_int_bool : kitB "int" "bool" = some false := by decide +kernel
@[simp] theorem kitB_int_int : kitB "int" "int" = some true := by decide +kernel
@[simp] theorem kitB_int_str : kitB "int" "str" = some false := by decide +kernel
@[simp] theorem kitB_int_tuple : kitB "int" "tuple" = some false := by decide +kernel
@[simp] theorem kitB_int_list : kitB "int" "list" = some false := by decide +kernel
@[simp] theorem kitB_int_dict : kitB "int" "dict" = some false := by decide +kernel
@[simp] theorem kitB_str_bool : kitB "str" "bool" = some false := by decide +kernel
@[simp] theorem kitB_str_int : kitB "str" "int" = some false := by decide +kernel
@[simp] theorem kitB_str_str : kitB "str" "str" = some true := by decide +kernel
@[simp] theorem kitB_str_tuple : kitB "str" "tuple" = some false := by decide +kernel
@[simp] theorem kitB_str_list : kitB "str" "list" = some false := by decide +kernel
@[simp] theorem kitB_str_dict : kitB "str" "dict" = some false := by decide +kernel
@[simp] theorem kitB_tuple_bool : kitB "tuple" "bool" = some false := by decide +kernel
@[simp] theorem kitB_tuple_int : kitB "tuple" "int" = some false := by decide +kernel
@[simp] theorem kitB_tuple_str : kitB "tuple" "str" = some false := by decide +kernel
@[simp] theorem kitB_tuple_tuple : kitB "tuple" "tuple" = some true := by decide +kernel
@[simp] theorem kitB_tuple_list : kitB "tuple" "list" = some false := by decide +kernel
@[simp] theorem kitB_tuple_dict : kitB "tuple" "dict" = some false := by decide +kernel
@[simp] theorem kitB_list_bool : kitB "list" "bool" = some false := by decide +kernel
@[simp] theorem kitB_list_int : kitB "list" "int" = some false := by decide +kernel
@[simp] theorem kitB_list_str : kitB "list" "str" = some false := by decide +kernel
@[simp] theorem kitB_list_tuple : kitB "list" "tuple" = some false := by decide +kernel
@[simp] theorem kitB_list_list : kitB "list" "list" = some true := by decide +kernel
@[simp] theorem kitB_list_dict : kitB "list" "dict" = some false := by decide +kernel
@[simp] theorem kitB_dict_bool : kitB "dict" "bool" = some false := by decide +kernel
@[simp] theorem kitB_dict_int : kitB "dict" "int" = some false := by decide +kernel
@[simp] theorem kitB_dict_str : kitB "dict" "str" = some false := by decide +kernel
@[simp] theorem kitB_dict_tuple : kitB "dict" "tuple" = some false := by decide +kernel
@[simp] theorem kitB_dict_list : kitB "dict" "list" = some false := by decide +kernel
@[simp] theorem kitB_dict_dict : kitB "dict" "dict" = some true := by decide +kernel

/-! ## numbers -/
theorem fmod_nn {a b : Int} (hb : 0 < b) : a.fmod b = a % b := Int.fmod_eq_emod_of_nonneg a (by omega)
theorem fmod_bounds (a : Int) {b : Int} (hb : 0 < b) : 0 ≤ a.fmod b ∧ a.fmod b < b := by
  rw [fmod_nn hb]
  exact ⟨Int.emod_nonneg _ (by omega), Int.emod_lt_of_pos _ hb⟩
theorem cdiv_of {i j : Int} (a : Nat) (h : 0 < j) (hb : j.natAbs < 2 ^ a) (h0 : 0 < a) (h9 : a ≤ 9000) : CDivW i j := wide_div h hb h0 h9

theorem atI_mem {α : Type} {xs : List α} {m : Int} (h0 : 0 ≤ m) (h1 : m < (xs.length : Int)) : ∃ y, atI xs m = some y ∧ y ∈ xs := by
  rw [atI_nn h0]
  have h2 : m.toNat < xs.length := by omega
  exact ⟨_, List.getElem?_eq_getElem h2, List.getElem_mem h2⟩
theorem strLen_app (a b : Str) : (a ++ b).length = a.length + b.length := PySem.Str.length_append a b
theorem strLen_one (c : Nat) : (⟨#[c]⟩ : Str).length = 1 := rfl
/-- a sign of a written text -/
theorem sign_at {x : Str} {m : Int} {n : Nat} (hx : x.length = n) (h0 : 0 ≤ m) (h1 : m < (n : Int)) : ∃ c, atI x.cps.toList m = some c ∧ c ∈ x.cps.toList := atI_mem h0 (by
  have : x.cps.toList.length = x.length := by simp [Str.length]
  omega)

/-! ## the laws' rows of digits -/
/-- what a row of digits may be -/
def Lf (a b : Int) : Prop := 0 ≤ a ∧ 0 ≤ b ∧ b < 2147483647
/-- a row of digits stands at l -/
def LAt (l : Nat) (S : Sto) : Prop := ∃ a b, S[l]? = some (.lst [.int a, .int b]) ∧ Lf a b
theorem LAt.set {l : Nat} {S : Sto} {a b : Int} (h : LAt l S) (h2 : Lf a b) : LAt l (S.set l (.lst [.int a, .int b])) := by
  obtain ⟨a', b', e, _⟩ := h
  exact ⟨a, b, get_set e, h2⟩
theorem LAt.le {l : Nat} {S S' : Sto} (h : LAt l S) (x : Le S S') : LAt l S' := by
  obtain ⟨a, b, e, q⟩ := h
  exact ⟨a, b, x _ _ e, q⟩
/-- what may happen while digits are drawn: the row at l is another one, new things stand behind -/
structure Gr (l : Nat) (S S' : Sto) : Prop where
  at_ : LAt l S'
  x : LeX l S S'
theorem Gr.refl {l : Nat} {S : Sto} (h : LAt l S) : Gr l S S := ⟨h, LeX.refl l S⟩
theorem Gr.trans {l : Nat} {S S1 S2 : Sto} (a : Gr l S S1) (b : Gr l S1 S2) : Gr l S S2 := ⟨b.at_, a.x.trans b.x⟩
theorem Gr.le {l : Nat} {S S1 S2 : Sto} (a : Gr l S S1) (b : Le S1 S2) : Gr l S S2 := ⟨a.at_.le b, a.x.trans (b.x l)⟩
theorem Gr.app {l : Nat} {S S1 : Sto} (a : Gr l S S1) (T : Sto) : Gr l S (S1 ++ T) := a.le (Le.app S1 T)
theorem Gr.get {l j : Nat} {S S' : Sto} {o : O} (g : Gr l S S') (h : S[j]? = some o) (n : j ≠ l) : S'[j]? = some o := g.x.2 j o n h
theorem LAt.ne {l j : Nat} {S : Sto} (h : LAt l S) (hj : S.length ≤ j) : j ≠ l := by
  obtain ⟨a, b, e, _⟩ := h
  have := lt_of_get e
  omega
/-- a def that draws: from the row at l, any value of which P holds -/
def Draw (l : Nat) (P : D → Prop) (S : Sto) (R : DQ) : Prop := LAt l S ∧ ∀ d S', P d → Gr l S S' → R d S'
/-- a pure def: the value d, new things may stand behind -/
def Pure (d : D) (S : Sto) (R : DQ) : Prop := ∀ S', Le S S' → R d S'
theorem Pure.here {d : D} {S : Sto} {R : DQ} (h : Pure d S R) : R d S := h S (Le.refl S)
theorem Pure.le {d : D} {S S' : Sto} {R : DQ} (h : Pure d S R) (x : Le S S') : Pure d S' R := fun S2 y => h S2 (x.trans y)
end Dl

namespace Dl
open PySem L2

/-! ## comprehensions, by an invariant of the store -/
inductive All2 {α β : Type} (Q : α → β → Prop) : List α → List β → Prop
  | nil : All2 Q [] []
  | cons {a : α} {b : β} {as : List α} {bs : List β} : Q a b → All2 Q as bs → All2 Q (a :: as) (b :: bs)
section
variable {α β : Type} {Q : α → β → Prop}
theorem All2.length {as : List α} {bs : List β} (h : All2 Q as bs) : as.length = bs.length := by
  induction h with
  | nil => rfl
  | cons _ _ ih => simp [ih]
theorem All2.app {as as' : List α} {bs bs' : List β} (h : All2 Q as bs) (h' : All2 Q as' bs') : All2 Q (as ++ as') (bs ++ bs') := by
  induction h with
  | nil => exact h'
  | cons a _ ih => exact .cons a ih
theorem All2.all {P : β → Prop} (hP : ∀ a b, Q a b → P b) {as : List α} {bs : List β} (h : All2 Q as bs) : ∀ b ∈ bs, P b := by
  induction h with
  | nil => intro b hb; cases hb
  | cons q _ ih =>
    intro b hb
    rcases List.mem_cons.mp hb with e | hb
    · rw [e]; exact hP _ _ q
    · exact ih b hb
theorem All2.map {f : α → β} : ∀ {as : List α} {bs : List β}, All2 (fun a b => b = f a) as bs → bs = as.map f
  | _, _, .nil => rfl
  | _, _, .cons h r => by rw [h, r.map]; rfl
theorem All2.imp {Q' : α → β → Prop} (hQ : ∀ a b, Q a b → Q' a b) {as : List α} {bs : List β} (h : All2 Q as bs) : All2 Q' as bs := by
  induction h with
  | nil => exact .nil
  | cons q _ ih => exact .cons (hQ _ _ q) ih
end
theorem lc_go {chk : Sto → Prop} {g : WG} {e : WE} {τ : DEnv} {R : DQ} {Q : D → D → Prop} {I : Sto → Prop} : ∀ {items acc : List D} {S : Sto}, I S → (∀ S', I S' → chk S') → acc.length + items.length ≤ sizeLine →
    (∀ d S' (N : DQ), d ∈ items → I S' → (∀ y S'', Q d y → I S'' → N y S'') → g d τ S' fun τ1 S1 => e τ1 S1 N) →
    (∀ ys S', I S' → All2 Q items ys → R (.loc S'.length) (S' ++ [.lst (acc ++ ys)])) → lcGo chk g wYes e τ R items acc S
  | [], acc, S, hI, hc, hl, hs, h0 => ⟨hc _ hI, by simpa using h0 [] S hI .nil⟩
  | d :: r, acc, S, hI, hc, hl, hs, h0 => ⟨hc _ hI, by
    simp only [wYes_ap, if_true]
    refine hs d S _ List.mem_cons_self hI fun y S'' q I' => ⟨by simp only [List.length_cons] at hl; omega, ?_⟩
    refine lc_go I' hc (by simp only [List.length_cons, List.length_append, List.length_nil] at hl ⊢; omega) (fun d S' N hd => hs d S' N (List.mem_cons_of_mem _ hd)) fun ys S' I2 a => ?_
    have := h0 (y :: ys) S' I2 (.cons q a)
    simpa using this⟩
/-- [e for g in items], each item's value as Q says -/
theorem lc_map {chk : Sto → Prop} {g : WG} {e : WE} {τ : DEnv} {R : DQ} {items : List D} {S : Sto} (Q : D → D → Prop) (I : Sto → Prop) (hI : I S) (hc : ∀ S', I S' → chk S') (hl : items.length ≤ sizeLine)
    (hs : ∀ d S' (N : DQ), d ∈ items → I S' → (∀ y S'', Q d y → I S'' → N y S'') → g d τ S' fun τ1 S1 => e τ1 S1 N)
    (h0 : ∀ ys S', I S' → All2 Q items ys → R (.loc S'.length) (S' ++ [.lst ys])) : lcGo chk g wYes e τ R items [] S :=
  lc_go hI hc (by simpa using hl) hs (by simpa using h0)
@[simp] theorem rangeD_len {lo : Int} {n : Nat} : (rangeD lo n).length = n := by simp [rangeD]
theorem rangeD_mem {lo : Int} {n : Nat} {d : D} (h : d ∈ rangeD lo n) : ∃ i : Int, d = .int i ∧ lo ≤ i ∧ i < lo + n := by
  simp [rangeD] at h
  obtain ⟨i, h1, h2⟩ := h
  exact ⟨_, h2.symm, by omega, by omega⟩
/-- a for whose turns all keep I of the store and J of the names -/
theorem for_keep {chk : Sto → Prop} {g : WG} {b : WS} {R : DEnds} {items : List D} {τ : DEnv} {S : Sto} (I : DEnv → Sto → Prop) (hi : I τ S) (hc : ∀ τ S', I τ S' → chk S') (h0 : ∀ τ S', I τ S' → R.nx τ S')
    (hs : ∀ d τ S' (N : DEnv → Sto → Prop), d ∈ items → I τ S' → (∀ τ' S'', I τ' S'' → N τ' S'') → g d τ S' fun τ1 S1 => b { nx := N, ct := N, bk := R.nx, rt := R.rt } τ1 S1) :
    forGo chk g b R items τ S := by
  refine forGo_run (fun its τ S' => I τ S' ∧ ∀ d ∈ its, d ∈ items) ⟨hi, fun _ h => h⟩ (fun τ S' h => ⟨hc _ _ h.1, h0 _ _ h.1⟩) fun d r τ S' N h hN => ⟨hc _ _ h.1, hs d τ S' N (h.2 d List.mem_cons_self) h.1 fun τ' S'' h' => hN _ _ ⟨h', fun c hc => h.2 c (List.mem_cons_of_mem _ hc)⟩⟩
/-- a def whose promise never holds -/
theorem fn_never {P : Program} {w : World} {K : PySem.W.Frag} {mg : Str → Option Value} {base : Heap} {x qual : Str} {st : Stmt} {f : Addr} {fd : FuncData} {N ps : List Str} {k : Nat} {sp : DSp} (F : Fun K x qual st f fd) (Sc : FnScope N ps (defScope st))
    (hf : mg x = some (.ref f)) (hb : Binds K fd ps []) (h : ∀ ds S R, ¬ sp ds S R) : FnD P w K mg base (k + 1) x sp :=
  ⟨f, fd, ps, Fun.okG F Sc (fun _ _ _ _ ⟨_, _, _, _, _, _, q, _⟩ => absurd q (h _ _ _)) (fun _ _ _ _ _ _ _ _ _ ⟨_, _, _, _, _, _, q, _⟩ => absurd q (h _ _ _)), hf, F.kp, hb⟩
/-- the law's promise -/
def spLaw (n : Nat) : DSp := fun ds S R => ∃ ns, ds = [scriptD ns] ∧ ns.length ≤ n ∧ ∀ S', R (.bl true) S'
theorem FnD.law {P : Program} {w : World} {K : PySem.W.Frag} {mg : Str → Option Value} {base : Heap} {k : Nat} {x : Str} {sp : DSp} {fa : Addr} {fd : FuncData} {ps : List Str} (h : FnG P w K mg base CX0 k fa fd ps (spD w K mg sp)) : FnG P w K mg base CX0 k fa fd ps (spD w K mg sp) := h
end Dl

namespace Dl
open PySem L2 PyProof.Rows PySem.Spec

/-! ## further built-ins -/
/-- a list of whole numbers -/
def intsD : List D → Option (List Int)
  | [] => some []
  | .int i :: r => (intsD r).map (i :: ·)
  | _ :: _ => none
theorem intsD_map : ∀ ns : List Int, intsD (ns.map D.int) = some ns
  | [] => rfl
  | n :: ns => by simp [intsD, intsD_map ns]
section
variable {X : Cx} {ρ : List Addr} {S : Sto} {H : Hp}
theorem intsD_ok : ∀ {ds : List D} {ns : List Int} {vs : List V}, intsD ds = some ns → VRs X.K ρ H ds vs → vs = ns.map V.int
  | [], ns, vs, e, h => by
    cases e
    exact h.nil_of
  | d :: r, ns, vs, e, h => by
    unfold VRs at h
    obtain ⟨v, vr, rfl, h2, h3⟩ := h
    cases d with
    | int i =>
      simp only [intsD, Option.map_eq_some_iff] at e
      obtain ⟨ms, e1, e2⟩ := e
      subst e2
      rw [intsD_ok e1 h3, h2.int_of]
      rfl
    | _ => cases e
theorem vrs_strs {K : PySem.W.Frag} : ∀ ns : List Str, VRs K ρ H (ns.map D.str) (ns.map V.str)
  | [] => .nil
  | n :: ns => .cons .str (vrs_strs ns)
def dInt1 : DCall := fun ds S R => (∃ i, ds = [.int i] ∧ R (.int i) S) ∨ (∃ b, ds = [.bl b] ∧ R (.int (if b = true then 1 else 0)) S) ∨ ∃ a n, ds = [.str a] ∧ PySem.intText? a = some n ∧ a.length ≤ 640 ∧ R (.int n) S
theorem cd_int1 : CallR X (.type "int") (rCD X dInt1) := CallR.imp (CallR.or call_int1 call_int_str) fun xs H Q ⟨ρ, S, ds, R, W, r, h, p⟩ => by
  rcases h with ⟨i, e1, q⟩ | ⟨b, e1, q⟩ | ⟨a, n, e1, h1, h2, q⟩
  · subst e1
    obtain ⟨v, rfl, rv⟩ := r.one_of
    exact .inl (.inl ⟨i, by rw [rv.int_of], p _ _ q ρ H _ (Ext.refl _ _) W .int⟩)
  · subst e1
    obtain ⟨v, rfl, rv⟩ := r.one_of
    exact .inl (.inr ⟨b, by rw [rv.bl_of], p _ _ q ρ H _ (Ext.refl _ _) W (by cases b <;> exact .int)⟩)
  · subst e1
    obtain ⟨v, rfl, rv⟩ := r.one_of
    exact .inr ⟨a, n, by rw [rv.str_of], h1, h2, p _ _ q ρ H _ (Ext.refl _ _) W .int⟩
def dStr1 : DCall := fun ds S R => (∃ i, ds = [.int i] ∧ i.natAbs.log2 < 1920 ∧ R (.str (toString i)) S) ∨ ∃ a, ds = [.str a] ∧ R (.str a) S
theorem cd_str1 : CallR X (.type "str") (rCD X dStr1) := CallR.imp (CallR.or call_str_int SkE.call_str_str) fun xs H Q ⟨ρ, S, ds, R, W, r, h, p⟩ => by
  rcases h with ⟨i, e1, h1, q⟩ | ⟨a, e1, q⟩
  · subst e1
    obtain ⟨v, rfl, rv⟩ := r.one_of
    exact .inl ⟨i, by rw [rv.int_of], h1, p _ _ q ρ H _ (Ext.refl _ _) W .str⟩
  · subst e1
    obtain ⟨v, rfl, rv⟩ := r.one_of
    exact .inr ⟨a, by rw [rv.str_of], p _ _ q ρ H _ (Ext.refl _ _) W .str⟩
def dAbs : DCall := fun ds S R => ∃ i, ds = [.int i] ∧ R (.int (if i < 0 then -i else i)) S
theorem cd_abs : CallR X (.builtin "abs") (rCD X dAbs) := CallR.imp call_abs fun xs H Q ⟨ρ, S, ds, R, W, r, ⟨i, e1, q⟩, p⟩ => by
  subst e1
  obtain ⟨v, rfl, rv⟩ := r.one_of
  exact ⟨i, by rw [rv.int_of], p _ _ q ρ H _ (Ext.refl _ _) W .int⟩
/-- built-ins over one list of whole numbers -/
def dSum : DCall := fun ds S R => ∃ d pr ns, ds = [d] ∧ lstD S d = some pr ∧ intsD pr.1 = some ns ∧ R (.int ns.sum) S
theorem cd_sum (hc : X.calm = true) : CallR X (.builtin "sum") (rCD X dSum) := CallR.imp (cr_sum hc) fun xs H Q ⟨ρ, S, ds, R, W, r, ⟨d, pr, ns, e1, e2, e3, q⟩, p⟩ => by
  subst e1
  obtain ⟨v, rfl, rv⟩ := r.one_of
  obtain ⟨a, vs, rfl, g1, g2, _⟩ := lstD_ok W rv e2
  rw [intsD_ok e3 g2] at g1
  exact ⟨a, ns, rfl, g1, p _ _ q ρ H _ (Ext.refl _ _) W .int⟩
def dMaxL : DCall := fun ds S R => ∃ d pr ns, ds = [d] ∧ lstD S d = some pr ∧ intsD pr.1 = some ns ∧ 0 < ns.length ∧ ∀ m, m ∈ ns → (∀ y, y ∈ ns → y ≤ m) → R (.int m) S
theorem cd_maxL (hc : X.calm = true) : CallR X (.builtin "max") (rCD X dMaxL) := CallR.imp (cr_max hc) fun xs H Q ⟨ρ, S, ds, R, W, r, ⟨d, pr, ns, e1, e2, e3, e4, q⟩, p⟩ => by
  subst e1
  obtain ⟨v, rfl, rv⟩ := r.one_of
  obtain ⟨a, vs, rfl, g1, g2, _⟩ := lstD_ok W rv e2
  rw [intsD_ok e3 g2] at g1
  exact ⟨a, ns, rfl, g1, e4, fun m h1 h2 => p _ _ (q m h1 h2) ρ H _ (Ext.refl _ _) W .int⟩
def dMinL : DCall := fun ds S R => ∃ d pr ns, ds = [d] ∧ lstD S d = some pr ∧ intsD pr.1 = some ns ∧ 0 < ns.length ∧ ∀ m, m ∈ ns → (∀ y, y ∈ ns → m ≤ y) → R (.int m) S
theorem cd_minL (hc : X.calm = true) : CallR X (.builtin "min") (rCD X dMinL) := CallR.imp (cr_min hc) fun xs H Q ⟨ρ, S, ds, R, W, r, ⟨d, pr, ns, e1, e2, e3, e4, q⟩, p⟩ => by
  subst e1
  obtain ⟨v, rfl, rv⟩ := r.one_of
  obtain ⟨a, vs, rfl, g1, g2, _⟩ := lstD_ok W rv e2
  rw [intsD_ok e3 g2] at g1
  exact ⟨a, ns, rfl, g1, e4, fun m h1 h2 => p _ _ (q m h1 h2) ρ H _ (Ext.refl _ _) W .int⟩
/-- sorted of a list of whole numbers, of texts -/
def dSorted : DCall := fun ds S R => ∃ d pr, ds = [d] ∧ lstD S d = some pr ∧ ((∃ ns, intsD pr.1 = some ns ∧ ∀ ms : List Int, ms.Perm ns → ms.Pairwise (· ≤ ·) → R (.loc S.length) (S ++ [.lst (ms.map D.int)])) ∨
  ∃ xs, strsD pr.1 = some xs ∧ xs.length < 64 ∧ ∀ ys : List Str, ys.Perm xs → sortedS ys = true → R (.loc S.length) (S ++ [.lst (ys.map D.str)]))
theorem cd_sorted : CallR X (.builtin "sorted") (rCD X dSorted) := CallR.imp (CallR.or cr_sortedI cr_sortedS) fun xs H Q ⟨ρ, S, ds, R, W, r, ⟨d, pr, e1, e2, h⟩, p⟩ => by
  subst e1
  obtain ⟨v, rfl, rv⟩ := r.one_of
  obtain ⟨a, vs, rfl, g1, g2, _⟩ := lstD_ok W rv e2
  rcases h with ⟨ns, e3, q⟩ | ⟨zs, e3, h64, q⟩
  · rw [intsD_ok e3 g2] at g1
    exact .inl ⟨a, ns, rfl, g1, fun ms c h1 h2 hc => new_lst W (vrs_ints ms) (q ms h1 h2) p hc⟩
  · rw [strsD_ok e3 g2] at g1
    exact .inr ⟨a, zs, rfl, g1, h64, fun ms c h1 h2 hc => new_lst W (vrs_strs ms) (q ms h1 h2) p hc⟩
def dInsert : DMt := fun d ds S R => ∃ l xs i y, d = .loc l ∧ ds = [.int i, y] ∧ S[l]? = some (.lst xs) ∧ xs.length < sizeLine ∧ 0 ≤ i ∧ i < 2 ^ 63 ∧ R .non (S.set l (.lst (xs.take i.toNat ++ [y] ++ xs.drop i.toNat)))
theorem md_insert : MtR X "list.insert" (rMD X dInsert) := MtR.imp mt_insert fun x us H Q ⟨ρ, S, d, ds, R, W, r1, r2, ⟨l, xs, i, y, e1, e2, g, hz, h0, h1, q⟩, p⟩ => by
  subst e1 e2
  obtain ⟨a, g1, rfl⟩ := r1.loc_of
  obtain ⟨iv, yv, rfl, ri, ry⟩ := r2.two_of
  cases ri.int_of
  obtain ⟨vs, h3, h4⟩ := W.obj l a _ g1 g
  obtain ⟨x1, W1⟩ := write_lst (xs := xs) W g1 h3 (((h4.take i.toNat).snoc ry).append (h4.drop i.toNat))
  exact ⟨a, vs, i, yv, rfl, rfl, h3, by rw [h4.length]; exact hz, h0, h1, p _ _ q ρ _ _ x1 W1 .non⟩
end
section
variable {S : Sto} {R : DQ} {b : Bool} {i : Int} {x : Str} {d c : D} {τ : DEnv} {wk wv we : WE} {wr : WA} {wp : WP} {o : DMt} {l ep : Nat} {kvs : List (D × D)}
@[simp] theorem dInt1_bl : dInt1 [.bl b] S R = R (.int (if b = true then 1 else 0)) S := by simp [dInt1]
@[simp] theorem dInt1_int : dInt1 [.int i] S R = R (.int i) S := by simp [dInt1]
@[simp] theorem dStr1_int : dStr1 [.int i] S R = (i.natAbs.log2 < 1920 ∧ R (.str (toString i)) S) := by simp [dStr1]
@[simp] theorem dStr1_str : dStr1 [.str x] S R = R (.str x) S := by simp [dStr1]
@[simp] theorem dAbs_int : dAbs [.int i] S R = R (.int (if i < 0 then -i else i)) S := by simp [dAbs]
@[simp ↓] theorem wDct0_ap : wDct0 τ S R = R (.loc S.length) (S ++ [.dct 0 []]) := rfl
@[simp ↓] theorem wDct_ap : wDct wp τ S R = wp τ S fun ps S1 => ps.length ≤ 1000 ∧ ∃ z, stoD (0, []) ps = some z ∧ R (.loc S1.length) (S1 ++ [.dct z.1 z.2]) := rfl
@[simp ↓] theorem wpNil_ap {Q : List (D × D) → Sto → Prop} : wpNil τ S Q = Q [] S := rfl
@[simp ↓] theorem wpCons_ap {Q : List (D × D) → Sto → Prop} : wpCons wk wv wp τ S Q = wk τ S fun k S1 => wv τ S1 fun v S2 => wp τ S2 fun ps S3 => Q ((k, v) :: ps) S3 := rfl
@[simp ↓] theorem wMtD0_ap : wMtD0 o we τ S R = we τ S fun d S1 => isDct S1 d ∧ o d [] S1 R := rfl
@[simp ↓] theorem wMtD_ap : wMtD o we wr τ S R = we τ S fun d S1 => isDct S1 d ∧ wr τ S1 fun ds S2 => o d ds S2 R := rfl
theorem dGetM_1 (h : S[l]? = some (.dct ep kvs)) : dGetM (.loc l) [d] S R = ∃ k, keyD d = some k ∧ R ((lkD kvs k).getD .non) S := by simp [dGetM, h]
theorem dGetM_2 (h : S[l]? = some (.dct ep kvs)) : dGetM (.loc l) [d, c] S R = ∃ k, keyD d = some k ∧ R ((lkD kvs k).getD c) S := by simp [dGetM, h]
theorem dSetdef_2 (h : S[l]? = some (.dct ep kvs)) : dSetdef (.loc l) [d, c] S R = ∃ k, keyD d = some k ∧ kvs.length < sizeLine ∧ eitherD (lkD kvs k) (fun v => R v S) (R c (S.set l (.dct (ep + 1) (kvs ++ [(d, c)])))) := by simp [dSetdef, h]
end
/-! ## dicts with plain keys -/
/-- what stands at a key -/
noncomputable def getP (kvs : List (D × D)) (d : D) : Option D := (kvs.find? fun p => decide (p.1 = d)).map (·.2)
noncomputable def putP (kvs : List (D × D)) (d v : D) : List (D × D) := if (getP kvs d).isSome then kvs.map fun p => if p.1 = d then (p.1, v) else p else kvs ++ [(d, v)]
noncomputable def epP (ep : Nat) (kvs : List (D × D)) (d : D) : Nat := if (getP kvs d).isSome then ep else ep + 1
def plainK (kvs : List (D × D)) : Prop := ∀ p ∈ kvs, plainD 8 p.1 = true
theorem keyD_plain {d : D} (h : plainD 8 d = true) : ∃ k, keyD d = some k ∧ keyOf d = some k := by
  obtain ⟨k, h1, h2⟩ := key_plain 8 d h
  exact ⟨k, by simp [keyD, h1, h2], h1⟩
theorem key_iff {d c : D} {k : NestedKey} (hd : plainD 8 d = true) (hc : plainD 8 c = true) (h : keyOf d = some k) : keyOf c = some k ↔ c = d := by
  refine ⟨fun e => key_inj 8 c d k hc hd e h, fun e => ?_⟩
  rw [e]
  exact h
theorem find_congr {α : Type} {f g : α → Bool} : ∀ {xs : List α}, (∀ x ∈ xs, f x = g x) → xs.find? f = xs.find? g
  | [], _ => rfl
  | x :: xs, h => by
    rw [List.find?_cons, List.find?_cons, h x List.mem_cons_self, find_congr fun y hy => h y (List.mem_cons_of_mem _ hy)]
theorem lk_plain {kvs : List (D × D)} {d : D} {k : NestedKey} (hk : plainK kvs) (hd : plainD 8 d = true) (e : keyOf d = some k) : lkD kvs k = getP kvs d := by
  unfold lkD getP
  rw [find_congr]
  intro p hp
  have := key_iff hd (hk p hp) e
  simp [this]
theorem put_plain {kvs : List (D × D)} {d v : D} {k : NestedKey} (hk : plainK kvs) (hd : plainD 8 d = true) (e : keyOf d = some k) : putD kvs k d v = putP kvs d v := by
  unfold putD putP
  rw [lk_plain hk hd e]
  have : (kvs.map fun p => if keyOf p.1 = some k then (p.1, v) else p) = kvs.map fun p => if p.1 = d then (p.1, v) else p := by
    refine List.map_congr_left fun p hp => ?_
    have := key_iff hd (hk p hp) e
    simp [this]
  rw [this]
theorem ep_plain {kvs : List (D × D)} {d : D} {k : NestedKey} {ep : Nat} (hk : plainK kvs) (hd : plainD 8 d = true) (e : keyOf d = some k) : epD ep kvs k = epP ep kvs d := by
  unfold epD epP
  rw [lk_plain hk hd e]
section
variable {S : Sto} {R : DQ} {l ep : Nat} {kvs : List (D × D)} {d c : D}
theorem dIx_P (h : S[l]? = some (.dct ep kvs)) (hk : plainK kvs) (hd : plainD 8 d = true) : dIx (.loc l) d S R = ∃ v, getP kvs d = some v ∧ R v S := by
  obtain ⟨k, h1, h2⟩ := keyD_plain hd
  rw [dIx_dct h, ← lk_plain hk hd h2]
  simp [h1]
theorem dGet1_P (h : S[l]? = some (.dct ep kvs)) (hk : plainK kvs) (hd : plainD 8 d = true) : dGetM (.loc l) [d] S R = R ((getP kvs d).getD .non) S := by
  obtain ⟨k, h1, h2⟩ := keyD_plain hd
  rw [dGetM_1 h, ← lk_plain hk hd h2]
  simp [h1]
theorem dGet2_P (h : S[l]? = some (.dct ep kvs)) (hk : plainK kvs) (hd : plainD 8 d = true) : dGetM (.loc l) [d, c] S R = R ((getP kvs d).getD c) S := by
  obtain ⟨k, h1, h2⟩ := keyD_plain hd
  rw [dGetM_2 h, ← lk_plain hk hd h2]
  simp [h1]
theorem dSet_P {Rs : Sto → Prop} (h : S[l]? = some (.dct ep kvs)) (hk : plainK kvs) (hd : plainD 8 d = true) : dSet (.loc l) d c S Rs = (kvs.length < sizeLine ∧ Rs (S.set l (.dct (epP ep kvs d) (putP kvs d c)))) := by
  obtain ⟨k, h1, h2⟩ := keyD_plain hd
  rw [dSet_dct h, ← put_plain hk hd h2, ← ep_plain hk hd h2]
  simp [h1]
theorem dIn_P (h : S[l]? = some (.dct ep kvs)) (hk : plainK kvs) (hd : plainD 8 d = true) : dIn d (.loc l) S R = R (.bl (getP kvs d).isSome) S := by
  obtain ⟨k, h1, h2⟩ := keyD_plain hd
  rw [← lk_plain hk hd h2]
  simp [dIn, opOr, dInB, dInQ, dInS, dInD, inD, seqD, h, h1]
theorem dNotIn_P (h : S[l]? = some (.dct ep kvs)) (hk : plainK kvs) (hd : plainD 8 d = true) : dNotIn d (.loc l) S R = R (.bl (!(getP kvs d).isSome)) S := by
  obtain ⟨k, h1, h2⟩ := keyD_plain hd
  rw [← lk_plain hk hd h2]
  simp [dNotIn, opOr, dNotInB, dNotInQ, dNotInS, dNotInD, inD, seqD, h, h1]
theorem dSetdef_P (h : S[l]? = some (.dct ep kvs)) (hk : plainK kvs) (hd : plainD 8 d = true) : dSetdef (.loc l) [d, c] S R = (kvs.length < sizeLine ∧ eitherD (getP kvs d) (fun v => R v S) (R c (S.set l (.dct (ep + 1) (kvs ++ [(d, c)]))))) := by
  obtain ⟨k, h1, h2⟩ := keyD_plain hd
  rw [dSetdef_2 h, ← lk_plain hk hd h2]
  simp [h1]
end

/-! ## comprehensions over what a list of things of one's own is read as -/
theorem lc_over_go {α : Type} {chk : Sto → Prop} {g : WG} {e : WE} {τ : DEnv} {R : DQ} {I : Sto → Prop} {gd h : α → D} : ∀ {as : List α} {acc : List D} {S : Sto}, I S → (∀ S', I S' → chk S') → acc.length + as.length ≤ sizeLine →
    (∀ a S' (N : DQ), a ∈ as → I S' → (∀ S'', I S'' → N (h a) S'') → g (gd a) τ S' fun τ1 S1 => e τ1 S1 N) → (∀ S', I S' → R (.loc S'.length) (S' ++ [.lst (acc ++ as.map h)])) → lcGo chk g wYes e τ R (as.map gd) acc S
  | [], acc, S, hI, hc, hl, hs, h0 => ⟨hc _ hI, by simpa using h0 S hI⟩
  | d :: r, acc, S, hI, hc, hl, hs, h0 => ⟨hc _ hI, by
    simp only [wYes_ap, if_true]
    refine hs d S _ List.mem_cons_self hI fun S'' I' => ⟨by simp only [List.length_cons] at hl; omega, ?_⟩
    refine lc_over_go I' hc (by simp only [List.length_cons, List.length_append, List.length_nil] at hl ⊢; omega) (fun d S' N hd => hs d S' N (List.mem_cons_of_mem _ hd)) fun S' I2 => ?_
    have := h0 S' I2
    simpa using this⟩
theorem lc_over {α : Type} {chk : Sto → Prop} {g : WG} {e : WE} {τ : DEnv} {R : DQ} {as : List α} {S : Sto} (gd h : α → D) (I : Sto → Prop) (hI : I S) (hc : ∀ S', I S' → chk S') (hl : as.length ≤ sizeLine)
    (hs : ∀ a S' (N : DQ), a ∈ as → I S' → (∀ S'', I S'' → N (h a) S'') → g (gd a) τ S' fun τ1 S1 => e τ1 S1 N) (h0 : ∀ S', I S' → R (.loc S'.length) (S' ++ [.lst (as.map h)])) : lcGo chk g wYes e τ R (as.map gd) [] S :=
  lc_over_go hI hc (by simpa using hl) hs (by simpa using h0)
theorem blsD_mapf {α : Type} {f : α → Bool} (as : List α) : blsD (as.map fun a => D.bl (f a)) = some (as.map f) := by
  have := blsD_map (as.map f)
  rwa [List.map_map] at this
@[simp] theorem dInS_str {c : Nat} {z : Str} {S : Sto} {R : DQ} : dIn (.str ⟨#[c]⟩) (.str z) S R = R (.bl (decide (c ∈ z.cps.toList))) S := by
  simp [dIn, opOr, dInB, dInQ, dInS, dInD, inD, seqD]
@[simp] theorem dNotInS_str {c : Nat} {z : Str} {S : Sto} {R : DQ} : dNotIn (.str ⟨#[c]⟩) (.str z) S R = R (.bl (!decide (c ∈ z.cps.toList))) S := by
  simp [dNotIn, opOr, dNotInB, dNotInQ, dNotInS, dNotInD, inD, seqD]
theorem cutS_len (x : Str) (lo hi : Option Int) : (cutS x lo hi).length ≤ x.length := by
  simp only [cutS, Str.length]
  simp [List.length_take]
  omega
theorem repS_len (x : Str) (n : Nat) : (repS x n).length = n * x.length := by
  simp [repS, Str.length]
theorem strsD_map : ∀ ns : List Str, strsD (ns.map D.str) = some ns
  | [] => rfl
  | n :: ns => by simp [strsD, strsD_map ns]
theorem strs_of {P : Str → Prop} {items ys : List D} (h : All2 (fun _ y => ∃ x : Str, y = .str x ∧ P x) items ys) : ∃ zs : List Str, ys = zs.map D.str ∧ (∀ z ∈ zs, P z) ∧ zs.length = items.length := by
  induction h with
  | nil => exact ⟨[], rfl, by simp, rfl⟩
  | cons q _ ih =>
    obtain ⟨x, rfl, hx⟩ := q
    obtain ⟨zs, rfl, h2, h3⟩ := ih
    exact ⟨x :: zs, rfl, by
      intro z hz
      rcases List.mem_cons.mp hz with e | hz
      · rw [e]; exact hx
      · exact h2 z hz, by simp [h3]⟩
theorem join_ones {zs : List Str} (h : ∀ z ∈ zs, z.length = 1) : (Txt.join (Str.ofString "") zs).length = zs.length := PySem.W.KT.join_ones zs h
@[simp] theorem keyD_str {x : Str} : keyD (.str x) = some (.text x) := rfl
@[simp] theorem keyD_int {i : Int} : keyD (.int i) = some (.num i) := rfl
@[simp] theorem keyD_non : keyD .non = some .none := rfl
@[simp] theorem stoD_nil {z : Nat × List (D × D)} : stoD z [] = some z := rfl
theorem stoD_1 {k v : D} {kk : NestedKey} (h : keyD k = some kk) : stoD (0, []) [(k, v)] = some (1, [(k, v)]) := by simp [stoD, h, epD, putD, lkD]
@[simp] theorem stoD_str {x : Str} {v : D} : stoD (0, []) [(.str x, v)] = some (1, [(.str x, v)]) := stoD_1 keyD_str
theorem get_at {S T : Sto} {i : Nat} : (S ++ T)[S.length + i]? = T[i]? := by
  rw [List.getElem?_append_right (by omega)]
  congr 1
  omega
theorem get_at0 {S T : Sto} : (S ++ T)[S.length]? = T[0]? := get_at (i := 0)
theorem eqK_plain1 {k v : D} (hk : plainD 8 k = true) (hv : plainD 100 v = true) : eqK [(k, v)] [(k, v)] = some true := by
  obtain ⟨kk, h1, h2⟩ := key_plain 8 k hk
  obtain ⟨kv, h3, h4⟩ := key_plain 100 v hv
  simp [eqK, allK, h1, lkD, h3, NestedKey.beq_self, h4]
theorem eqD_dcts {S : Sto} {i j e1 e2 : Nat} {k1 k2 : List (D × D)} {b : Bool} (hi : S[i]? = some (.dct e1 k1)) (hj : S[j]? = some (.dct e2 k2)) (h : eqK k1 k2 = some b) : eqD S (.loc i) (.loc j) = some b := by
  simp [eqD, hi, hj, h]
theorem Le.get {S S' : Sto} {j : Nat} {o : O} (h : Le S S') (e : S[j]? = some o) : S'[j]? = some o := h j o e
end Dl

namespace Dl
open PySem L2

/-! ## < of texts, of tuples of whole numbers, texts, tuples -/
/-- how two rows of values compare, as far as is looked -/
inductive LtsAt (A : Around) (s : Shared) : List Value → List Value → Bool → Prop
  | nil : LtsAt A s [] [] false
  | left {y : Value} {ys : List Value} : LtsAt A s [] (y :: ys) true
  | right {x : Value} {xs : List Value} : LtsAt A s (x :: xs) [] false
  | same {x y : Value} {xs ys : List Value} {b : Bool} : SeqAt.EqAt A s x y true → LtsAt A s xs ys b → LtsAt A s (x :: xs) (y :: ys) b
  | less {x y : Value} {xs ys : List Value} {b : Bool} : SeqAt.EqAt A s x y false → SeqAt.RcLt A s x y b → LtsAt A s (x :: xs) (y :: ys) b
section
open PySem.SeqAt
open PySem.AutoSeq1 (wpAny_loadPart')
open PySem.MeetsSeq PySem.MeetsSeq2 PySem.MeetsSeq3
theorem tuple_lts (l b : Addr) (us vs : Array Value) (n n2 : Nat) (dd dd2 : Option Addr) (sl sl2 : Array (Option Value)) (k : Bool) :
    Meets (Builtin.«tuple.__lt__» ⟨[.ref l, .ref b], []⟩)
      (fun A R s => s.heap.get? l = some { cls := .type "tuple", dict := dd, data := .seq us n, slots := sl } ∧ s.heap.get? b = some { cls := .type "tuple", dict := dd2, data := .seq vs n2, slots := sl2 } ∧ LtsAt A.in1 s us.toList vs.toList k ∧ R (.ok (.ret (.bool k))) s) :=
  .of_wp fun prog w A R s h => by
    obtain ⟨hp, g, d, tk, os⟩ := s
    obtain ⟨hl, hb, hk, h⟩ := h
    have f2 := AutoSeq1.sub_tuple_tuple
    wp_walk using wpAny_loadPart' hl, wpAny_loadPart' hb, wpAny_forIn_list _ (fun rest z s' => z.1 = none ∧ s' = ⟨hp, g, d, tk, os⟩ ∧ ∃ (ps qs : List Value), rest = ps.zip qs ∧
      ps.length + vs.size = qs.length + us.size ∧ LtsAt A.in1 ⟨hp, g, d, tk, os⟩ ps qs k) _
    case turn =>
      rintro ⟨y, x⟩ rest z s' ⟨hz1, rfl, ps, qs, hz, hlen, hk2⟩
      cases hk2 with
      | nil => rw [List.zip_nil_left] at hz; cases hz
      | left => rw [List.zip_nil_left] at hz; cases hz
      | right => rw [List.zip_nil_right] at hz; cases hz
      | same he ht =>
        rw [List.zip_cons_cons] at hz
        injection hz with hyx hrest
        injection hyx with hy hx
        subst hy hx
        refine wpAny_bind (he prog w _ _ ?_)
        wp_walk
        exact ⟨rfl, rfl, _, _, hrest, by simp only [List.length_cons] at hlen; omega, ht⟩
      | less he hr =>
        rw [List.zip_cons_cons] at hz
        injection hz with hyx hrest
        injection hyx with hy hx
        subst hy hx
        refine wpAny_bind (he prog w _ _ ?_)
        have hri := hr prog w
        wp_walk using hri
        exact ⟨_, rfl, h⟩
    case fin =>
      rintro ⟨z1, z2⟩ s' ⟨hz1, rfl, ps, qs, hz, hlen, hk2⟩
      simp only at hz1
      subst hz1
      wp_walk
      cases hk2 with
      | nil =>
        simp only [List.length_nil] at hlen
        exact ⟨_, rfl, by simpa [Builtin.Tuple.tupleCompareSizes, show ¬ us.size < vs.size by omega] using h⟩
      | left =>
        simp only [List.length_nil, List.length_cons] at hlen
        exact ⟨_, rfl, by simpa [Builtin.Tuple.tupleCompareSizes, show us.size < vs.size by omega] using h⟩
      | right =>
        simp only [List.length_nil, List.length_cons] at hlen
        exact ⟨_, rfl, by simpa [Builtin.Tuple.tupleCompareSizes, show ¬ us.size < vs.size by omega] using h⟩
      | same _ _ => rw [List.zip_cons_cons] at hz; cases hz
      | less _ _ => rw [List.zip_cons_cons] at hz; cases hz
    case h =>
      exact ⟨rfl, rfl, _, _, rfl, by simp; omega, hk⟩
theorem rcLt_tups {A : Around} {s : Shared} {l b : Addr} {us vs : Array Value} {k : Bool} (hl : s.heap.IsTuple l us) (hb : s.heap.IsTuple b vs) (hu : A.units < cLine) (h : LtsAt A.in1 s us.toList vs.toList k) : SeqAt.RcLt A s (.ref l) (.ref b) k := fun prog w E Q q => by
  obtain ⟨⟨cls, dd, data, sl⟩, ho, hc, n, hd⟩ := id hl
  obtain ⟨⟨cls2, dd2, data2, sl2⟩, ho2, hc2, n2, hd2⟩ := id hb
  simp only at hc hd hc2 hd2
  subst hc hd hc2 hd2
  exact richCompare_meets_room (op := .Lt) ⟨_, ho, rfl⟩ ⟨_, ho2, rfl⟩ F.slot_tuple_lt F.entry_tuple_lt (F.args_tuple_lt_2 _ _) (tuple_lts l b us vs n n2 dd dd2 sl sl2 k) ⟨ho, ho2, h, (fun x => nomatch x), q⟩ hu
end
mutual
/-- what < tells -/
def ltD : D → D → Option Bool
  | .int a, .int b => some (decide (a < b))
  | .str x, .str y => some (decide (x.cps.toList < y.cps.toList))
  | .tup xs, .tup ys => ltDs xs ys
  | _, _ => none
def ltDs : List D → List D → Option Bool
  | [], [] => some false
  | [], _ :: _ => some true
  | _ :: _, [] => some false
  | d :: ds, c :: cs => match keyOf d, keyOf c with
    | some k1, some k2 => if NestedKey.beq k1 k2 = true then ltDs ds cs else ltD d c
    | _, _ => none
end
section
variable {X : Cx} {pins : List (Addr × Obj)} {σ : St} {H : Hp} {s : Shared} {ρ : List Addr}
mutual
theorem ltD_ok (I : L2.Inv X pins σ H s) : ∀ (d c : D) (k : NestedKey) (A : Around) (v1 v2 : V) (u1 u2 : Value) (b : Bool), ltD d c = some b → keyOf d = some k → VR X.K ρ H d v1 → VR X.K ρ H c v2 → RelV v1 u1 → RelV v2 u2 → A.units + k.depth < cLine → SeqAt.RcLt A s u1 u2 b
  | .int a, c, k, A, v1, v2, u1, u2, b, e, hk, r1, r2, q1, q2, hu => by
    cases c with
    | int a2 =>
      cases e
      cases r1.int_of
      cases r2.int_of
      obtain ⟨t1, rfl⟩ := (show ∃ t, u1 = Value.int a t from q1)
      obtain ⟨t2, rfl⟩ := (show ∃ t, u2 = Value.int a2 t from q2)
      exact fun prog w E Q q => HT.rcLt_int A s a t1 a2 t2 prog w E Q q
    | _ => cases e
  | .str a, c, k, A, v1, v2, u1, u2, b, e, hk, r1, r2, q1, q2, hu => by
    cases c with
    | str a2 =>
      cases e
      cases r1.str_of
      cases r2.str_of
      obtain ⟨t1, rfl⟩ := (show ∃ t, u1 = Value.str a t from q1)
      obtain ⟨t2, rfl⟩ := (show ∃ t, u2 = Value.str a2 t from q2)
      exact fun prog w E Q q => DT.rcLt_str A s a t1 a2 t2 prog w E Q q
    | _ => cases e
  | .tup ds, c, k, A, v1, v2, u1, u2, b, e, hk, r1, r2, q1, q2, hu => by
    cases c with
    | tup cs =>
      obtain ⟨a1, vs1, rfl, h1, h2⟩ := r1.tup_of
      obtain ⟨a2, vs2, rfl, h3, h4⟩ := r2.tup_of
      cases (show u1 = Value.ref a1 from q1)
      cases (show u2 = Value.ref a2 from q2)
      obtain ⟨is1, rv1, t1, _⟩ := I.tuple h1.sq
      obtain ⟨is2, rv2, t2, _⟩ := I.tuple h3.sq
      have e' : (keyOf.keysOf ds).map NestedKey.tup = some k := hk
      cases e2 : keyOf.keysOf ds with
      | none =>
        rw [e2] at e'
        cases e'
      | some ks =>
        rw [e2] at e'
        cases e'
        have hd : NestedKey.depth (.tup ks) = NestedKey.depthAll ks + 1 := by simp [NestedKey.depth]
        rw [hd] at hu
        exact rcLt_tups t1 t2 (by omega) (by simpa using ltDs_ok I ds cs ks A.in1 vs1 vs2 is1 is2 b e e2 h2 h4 rv1 rv2 (by show A.units + 1 + _ < cLine; omega))
    | _ => cases e
  | .non, c, k, A, v1, v2, u1, u2, b, e, hk, r1, r2, q1, q2, hu => by cases c <;> cases e
  | .bl _, c, k, A, v1, v2, u1, u2, b, e, hk, r1, r2, q1, q2, hu => by cases c <;> cases e
  | .fls _, c, k, A, v1, v2, u1, u2, b, e, hk, r1, r2, q1, q2, hu => by cases hk
  | .loc _, c, k, A, v1, v2, u1, u2, b, e, hk, r1, r2, q1, q2, hu => by cases hk
theorem ltDs_ok (I : L2.Inv X pins σ H s) : ∀ (ds cs : List D) (ks : List NestedKey) (A : Around) (vs1 vs2 : List V) (us1 us2 : List Value) (b : Bool), ltDs ds cs = some b → keyOf.keysOf ds = some ks → VRs X.K ρ H ds vs1 → VRs X.K ρ H cs vs2 → Vals vs1 us1 → Vals vs2 us2 → A.units + NestedKey.depthAll ks < cLine → LtsAt A s us1 us2 b
  | [], [], ks, A, vs1, vs2, us1, us2, b, e, hk, r1, r2, q1, q2, hu => by
    cases r1.nil_of
    cases r2.nil_of
    cases q1
    cases q2
    cases e
    exact .nil
  | [], c :: cs, ks, A, vs1, vs2, us1, us2, b, e, hk, r1, r2, q1, q2, hu => by
    cases r1.nil_of
    unfold VRs at r2
    obtain ⟨v, vr, rfl, _, _⟩ := r2
    cases q1
    cases q2
    cases e
    exact .left
  | d :: ds, [], ks, A, vs1, vs2, us1, us2, b, e, hk, r1, r2, q1, q2, hu => by
    cases r2.nil_of
    unfold VRs at r1
    obtain ⟨v, vr, rfl, _, _⟩ := r1
    cases q1
    cases q2
    cases e
    exact .right
  | d :: ds, c :: cs, ks, A, vs1, vs2, us1, us2, b, e, hk, r1, r2, q1, q2, hu => by
    unfold VRs at r1 r2
    obtain ⟨x1, xr1, rfl, g1, g2⟩ := r1
    obtain ⟨x2, xr2, rfl, g3, g4⟩ := r2
    cases q1 with
    | cons p1 t1 =>
    cases q2 with
    | cons p2 t2 =>
    unfold ltDs at e
    unfold keyOf.keysOf at hk
    cases e1 : keyOf d with
    | none =>
      rw [e1] at hk
      cases hk
    | some k1 =>
      cases e2 : keyOf.keysOf ds with
      | none =>
        rw [e1, e2] at hk
        cases hk
      | some ks' =>
        rw [e1, e2] at hk
        cases hk
        simp only [NestedKey.depthAll] at hu
        cases e3 : keyOf c with
        | none =>
          rw [e1, e3] at e
          cases e
        | some k2 =>
          simp only [e1, e3] at e
          have n1 := nested_of I d k1 _ _ e1 g1 p1
          have n2 := nested_of I c k2 _ _ e3 g3 p2
          have eq := eqAt_key k1 k2 A s _ _ n1 n2 (by omega)
          by_cases hb : NestedKey.beq k1 k2 = true
          · rw [if_pos hb] at e
            rw [hb] at eq
            exact .same eq (ltDs_ok I ds cs ks' A _ _ _ _ b e e2 g2 g4 t1 t2 (by omega))
          · rw [if_neg hb] at e
            rw [Bool.not_eq_true _ |>.mp hb] at eq
            exact .less eq (ltD_ok I d c k1 A _ _ _ _ b e e1 g1 g3 p1 p2 (by omega))
end
end
def dLtD : DOp := fun d1 d2 S R => ∃ k b, keyOf d1 = some k ∧ k.depth ≤ 100 ∧ ltD d1 d2 = some b ∧ R (.bl b) S
def dLt : DOp := opOr dLtI dLtD
section
variable {X : Cx}
theorem od_ltD (hu : X.A.units + 150 < cLine) : OpR X (compareOp .Lt) (rD X dLtD) := fun pins s σ H x y v u Q I rx ry ⟨ρ, S, d1, d2, R, W, r1, r2, ⟨k, b, e1, e2, e3, q⟩, p⟩ =>
  ltD_ok I d1 d2 k X.A x y v u b e3 e1 r1 r2 rx ry (by omega) X.prog X.w _ _ ⟨.bl b, H, I, rfl, p _ _ q ρ H _ (Ext.refl _ _) W .bl⟩
theorem od_lt (hu : X.A.units + 150 < cLine) : OpR X (compareOp .Lt) (rD X dLt) := OpD.or od_ltI (od_ltD hu)
end
@[simp] theorem dLt_int {m n : Int} {S : Sto} {R : DQ} : dLt (.int m) (.int n) S R = R (.bl (decide (m < n))) S := by
  simp [dLt, opOr, dLtI, dLtD, keyOf, ltD, NestedKey.depth]
@[simp] theorem dLt_str {x y : Str} {S : Sto} {R : DQ} : dLt (.str x) (.str y) S R = R (.bl (decide (x.cps.toList < y.cps.toList))) S := by
  simp [dLt, opOr, dLtI, dLtD, keyOf, ltD, NestedKey.depth]
theorem dLt_tup {xs ys : List D} {S : Sto} {R : DQ} (h : plainD 100 (.tup xs) = true) : dLt (.tup xs) (.tup ys) S R = ∃ b, ltDs xs ys = some b ∧ R (.bl b) S := by
  obtain ⟨k, h1, h2⟩ := key_plain 100 _ h
  simp [dLt, opOr, dLtI, dLtD, h1, h2, ltD]
@[simp] theorem cutD_tail {x : D} {xs : List D} : cutD (x :: xs) (some 1) none = xs := by
  have : min 1 (xs.length + 1) = 1 := by omega
  simp [cutD, HT.sIx, this]
theorem keysOf_strs : ∀ ss : List Str, keyOf.keysOf (ss.map D.str) = some (ss.map NestedKey.text)
  | [] => rfl
  | s :: ss => by
    rw [List.map_cons, keyOf.keysOf, keysOf_strs ss]
    rfl
theorem dIn_strs {x : Str} {ss : List Str} {S : Sto} {R : DQ} : dIn (.str x) (.tup (ss.map D.str)) S R = R (.bl (decide (x ∈ ss))) S := by
  have e : inKeys (.text x) (ss.map NestedKey.text) = decide (x ∈ ss) := by
    unfold inKeys
    rw [List.any_map, Bool.eq_iff_iff, List.any_eq_true, decide_eq_true_iff]
    refine ⟨fun ⟨y, h1, h2⟩ => ?_, fun h => ⟨x, h, by simp [NestedKey.beq_self]⟩⟩
    have := NestedKey.eq_of_beq _ _ h2
    cases this
    exact h1
  have k1 : keyOf (.str x) = some (.text x) := rfl
  simp [dIn, opOr, dInB, dInQ, dInS, dInD, inD, seqD, k1, keysOf_strs, e, NestedKey.depth]
theorem dIn_strs2 {x a b : Str} {S : Sto} {R : DQ} : dIn (.str x) (.tup [.str a, .str b]) S R = R (.bl (decide (x = a ∨ x = b))) S := by
  have := dIn_strs (x := x) (ss := [a, b]) (S := S) (R := R)
  simpa using this
theorem dIn_strs3 {x a b c : Str} {S : Sto} {R : DQ} : dIn (.str x) (.tup [.str a, .str b, .str c]) S R = R (.bl (decide (x = a ∨ x = b ∨ x = c))) S := by
  have := dIn_strs (x := x) (ss := [a, b, c]) (S := S) (R := R)
  simpa using this
end Dl

namespace Dl
open PySem L2 PyProof.Rows PySem.Spec

/-! ## str(x) of what is no text -/
mutual
inductive Shw (S : Sto) : D → PyData → Prop
  | non : Shw S .non .none
  | bl {b : Bool} : Shw S (.bl b) (.bool b)
  | int {i : Int} : Shw S (.int i) (.int i)
  | str {x : Str} : Shw S (.str x) (.str x)
  | tup {ds : List D} {ps : List PyData} : Shws S ds ps → Shw S (.tup ds) (.tuple ps)
  | fls {ds : List D} {ps : List PyData} : Shws S ds ps → Shw S (.fls ds) (.list ps)
  | lst {l : Nat} {ds : List D} {ps : List PyData} : S[l]? = some (.lst ds) → Shws S ds ps → Shw S (.loc l) (.list ps)
  | dct {l ep : Nat} {kvs : List (D × D)} {ps : List (PyData × PyData)} : S[l]? = some (.dct ep kvs) → Shws S (kvs.map (·.1)) (ps.map (·.1)) → Shws S (kvs.map (·.2)) (ps.map (·.2)) → Shw S (.loc l) (.dict ps)
inductive Shws (S : Sto) : List D → List PyData → Prop
  | nil : Shws S [] []
  | cons {d : D} {ds : List D} {p : PyData} {ps : List PyData} : Shw S d p → Shws S ds ps → Shws S (d :: ds) (p :: ps)
end
mutual
def hasLst : PyData → Bool
  | .none | .bool _ | .int _ | .str _ => false
  | .list _ => true
  | .tuple xs => hasLsts xs
  | .dict kvs => hasLstKv kvs
def hasLsts : List PyData → Bool
  | [] => false
  | x :: xs => hasLst x || hasLsts xs
def hasLstKv : List (PyData × PyData) → Bool
  | [] => false
  | (a, b) :: r => (hasLst a || hasLst b) || hasLstKv r
end
theorem hasLstKv_split : ∀ (kvs : List (PyData × PyData)), hasLstKv kvs = false → hasLsts (kvs.map (·.1)) = false ∧ hasLsts (kvs.map (·.2)) = false
  | [], _ => ⟨by simp [hasLsts], by simp [hasLsts]⟩
  | (a, b) :: r, h => by
    simp only [hasLstKv, Bool.or_eq_false_iff] at h
    obtain ⟨h1, h2⟩ := hasLstKv_split r h.2
    simp [hasLsts, h.1.1, h.1.2, h1, h2]
section
variable {X : Cx} {pins : List (Addr × Obj)} {σ : L2.St} {H : Hp} {s : Shared} {ρ : List Addr} {S : Sto}
theorem ent_two : ∀ {kvs : List (D × D)} {es : List DictEntry}, Paired (EntR X.w X.K ρ H) kvs es → (∃ vs, VRs X.K ρ H (kvs.map (·.1)) vs ∧ Vals vs (es.map (·.key))) ∧ ∃ vs, VRs X.K ρ H (kvs.map (·.2)) vs ∧ Vals vs (es.map (·.val))
  | _, _, .nil => ⟨⟨[], .nil, .nil⟩, ⟨[], .nil, .nil⟩⟩
  | _, _, .cons ⟨k, kv, dv, _, _, _, h1, h2, h3, h4⟩ t => by
    obtain ⟨⟨vs, a1, a2⟩, ⟨ws, b1, b2⟩⟩ := ent_two t
    exact ⟨⟨kv :: vs, .cons h1 a1, .cons h2 a2⟩, ⟨dv :: ws, .cons h3 b1, .cons h4 b2⟩⟩
mutual
theorem Shw.reads (I : L2.Inv X pins σ H s) (W : Wd X.w X.K X.mg ρ S H) : ∀ {d : D} {p : PyData}, Shw S d p → ∀ {v : V} {u : Value}, VR X.K ρ H d v → RelV v u → ∃ as, Reads s.heap u p as ∧ (hasLst p = false → sysModules ∉ as)
  | _, _, .non, v, u, h, r => by
    unfold VR at h
    subst h
    cases r
    exact ⟨[], .none, by simp⟩
  | _, _, .bl, v, u, h, r => by
    unfold VR at h
    subst h
    cases r
    exact ⟨[], .bool _, by simp⟩
  | _, _, .int, v, u, h, r => by
    unfold VR at h
    subst h
    obtain ⟨t, rfl⟩ := r
    exact ⟨[], .int _ _, by simp⟩
  | _, _, .str, v, u, h, r => by
    unfold VR at h
    subst h
    obtain ⟨t, rfl⟩ := r
    exact ⟨[], .str _ _, by simp⟩
  | _, _, .tup t, v, u, h, r => by
    unfold VR at h
    obtain ⟨a, vs, rfl, h1, h2⟩ := h
    cases r
    obtain ⟨its, rv, ⟨o, ho, hc, n, hd⟩, _⟩ := I.tuple h1.sq
    obtain ⟨as, h3, h4⟩ := Shws.reads I W t h2 rv
    exact ⟨as, .tuple ho hc hd h3, fun q => h4 (by simpa [hasLst] using q)⟩
  | _, _, .fls t, v, u, h, r => by
    unfold VR at h
    obtain ⟨a, vs, rfl, h1, h2⟩ := h
    cases r
    obtain ⟨its, rv, ⟨o, n, ho, hc, _, hd⟩, _⟩ := I.list h1.sq
    obtain ⟨as, h3, h4⟩ := Shws.reads I W t h2 rv
    exact ⟨a :: as, .list ho hc hd h3, fun q => by simp [hasLst] at q⟩
  | _, _, .lst (l := l) e t, v, u, h, r => by
    unfold VR at h
    obtain ⟨a, h1, rfl⟩ := h
    cases r
    obtain ⟨vs, h2, h3⟩ := W.obj l a _ h1 e
    obtain ⟨its, rv, ⟨o, n, ho, hc, _, hd⟩, _⟩ := I.list (xs := vs) (.inl (.inl h2))
    obtain ⟨as, h4, h5⟩ := Shws.reads I W t h3 rv
    exact ⟨a :: as, .list ho hc hd h4, fun q => by simp [hasLst] at q⟩
  | _, _, .dct (l := l) e t1 t2, v, u, h, r => by
    unfold VR at h
    obtain ⟨a, h1, rfl⟩ := h
    cases r
    obtain ⟨ha, _, _, es, h2, h3⟩ := W.obj l a _ h1 e
    obtain ⟨o, ho, hx, hd⟩ := (I.hok a _ h2).1
    obtain ⟨⟨vs, a1, a2⟩, ⟨ws, b1, b2⟩⟩ := ent_two (X := X) h3
    obtain ⟨as, h4, h5⟩ := Shws.reads I W t1 a1 a2
    obtain ⟨bs, h6, h7⟩ := Shws.reads I W t2 b1 b2
    refine ⟨a :: as ++ bs, .dict ho hx.1 hd h4 h6, fun q => ?_⟩
    obtain ⟨q1, q2⟩ := hasLstKv_split _ (by simpa [hasLst] using q)
    simp only [List.cons_append, List.mem_cons, List.mem_append, not_or]
    exact ⟨fun e => by rw [← e] at ha; simp at ha, h5 q1, h7 q2⟩
theorem Shws.reads (I : L2.Inv X pins σ H s) (W : Wd X.w X.K X.mg ρ S H) : ∀ {ds : List D} {ps : List PyData}, Shws S ds ps → ∀ {vs : List V} {us : List Value}, VRs X.K ρ H ds vs → Vals vs us → ∃ as, ReadsAll s.heap us ps as ∧ (hasLsts ps = false → sysModules ∉ as)
  | _, _, .nil, vs, us, h, r => by
    unfold VRs at h
    subst h
    cases r
    exact ⟨[], .nil, by simp⟩
  | _, _, .cons t ts, vs, us, h, r => by
    unfold VRs at h
    obtain ⟨v, vr, rfl, h1, h2⟩ := h
    cases r with
    | cons r1 r2 =>
      obtain ⟨as, a1, a2⟩ := Shw.reads I W t h1 r1
      obtain ⟨bs, b1, b2⟩ := Shws.reads I W ts h2 r2
      refine ⟨as ++ bs, .cons a1 b1, fun q => ?_⟩
      simp only [hasLsts, Bool.or_eq_false_iff] at q
      simp only [List.mem_append, not_or]
      exact ⟨a2 q.1, b2 q.2⟩
end
/-- what str(..) and repr(..) show -/
structure Fit (p : PyData) : Prop where
  sh : p.showable = true
  one : p.hasDict = false ∨ hasLst p = false
  dp : p.depth ≤ 150
  sz : p.shown.length ≤ sizeLine
def notStr : D → Bool
  | .str _ => false
  | _ => true
def dStrS : DCall := fun ds S R => ∃ d p, ds = [d] ∧ notStr d = true ∧ Shw S d p ∧ Fit p ∧ R (.str p.shown) S
theorem cd_strS {k : Nat} (hr : RoomG k X.A) : CallR X (.type "str") (rCD X dStrS) := fun pins s σ H xs us Q I r ⟨ρ, S, ds, R, W, rv, ⟨d, p, e1, e2, e3, F, q⟩, pq⟩ => by
  subst e1
  obtain ⟨v, rfl, r1⟩ := rv.one_of
  obtain ⟨u, rfl, r2⟩ := vals1 r
  have fin : ∀ (s' : Shared), L2.Inv X pins σ H s' → ∀ u, EP X pins σ Q (.str p.shown u) s' := fun s' I' u => ⟨.str p.shown, H, I', ⟨u, rfl⟩, pq _ _ q ρ H _ (Ext.refl _ _) W .str⟩
  obtain ⟨as, h1, h2⟩ := e3.reads I W r1 r2
  have hu := hr.room.un
  have ref : ∀ a, u = .ref a → wpAny (model X.prog X.w) X.A (call (.type "str") [u]) (EP X pins σ Q) X.xe s := fun a e => by
    subst e
    have := F.dp
    exact str_of_reads h1 F.sh (fun hd => h2 (F.one.resolve_left (by rw [hd]; simp))) hr.gd (by omega) (fun _ _ e => e) (fun h' u tk hk => fin _ (I.kept hk) u) F.sz
  cases e3 with
  | non =>
    unfold VR at r1
    subst r1
    cases r2
    exact PySem.P.str_of_none (fin _ (I.tok _) _)
  | bl =>
    unfold VR at r1
    subst r1
    cases r2
    exact PySem.P.str_of_bool (fin _ (I.tok _) _)
  | int =>
    unfold VR at r1
    subst r1
    obtain ⟨t, rfl⟩ := r2
    exact PySem.P.str_of_int (by simpa [PyData.showable] using F.sh) (fin _ (I.tok _) _)
  | str => cases e2
  | tup _ =>
    unfold VR at r1
    obtain ⟨a, _, rfl, _⟩ := r1
    cases r2
    exact ref _ rfl
  | fls _ =>
    unfold VR at r1
    obtain ⟨a, _, rfl, _⟩ := r1
    cases r2
    exact ref _ rfl
  | lst _ _ =>
    unfold VR at r1
    obtain ⟨a, _, rfl⟩ := r1
    cases r2
    exact ref _ rfl
  | dct _ _ _ =>
    unfold VR at r1
    obtain ⟨a, _, rfl⟩ := r1
    cases r2
    exact ref _ rfl
def dStrA : DCall := callOr dStr1 dStrS
theorem cd_strA {k : Nat} (hr : RoomG k X.A) : CallR X (.type "str") (rCD X dStrA) := CallD.or cd_str1 (cd_strS hr)
end
section
variable {S : Sto} {R : DQ} {i : Int} {x : Str}
@[simp] theorem dStrA_str : dStrA [.str x] S R = R (.str x) S := by
  simp only [dStrA, callOr, dStr1_str]
  apply propext
  refine ⟨fun h => ?_, .inl⟩
  rcases h with h | ⟨d, p, e, h, _⟩
  · exact h
  · cases e
    cases h
@[simp] theorem dStrA_int : dStrA [.int i] S R = (i.natAbs.log2 < 1920 ∧ R (.str (toString i)) S) := by
  simp only [dStrA, callOr, dStr1_int]
  apply propext
  refine ⟨fun h => ?_, .inl⟩
  rcases h with h | ⟨d, p, e, _, h, F, q⟩
  · exact h
  · cases e
    cases h
    refine ⟨by simpa [PyData.showable] using F.sh, ?_⟩
    simpa only [PyData.shown] using q
/-- str(x), x no text -/
theorem dStrA_shw {d : D} {p : PyData} (h : Shw S d p) (hn : notStr d = true) (F : Fit p) (q : R (.str p.shown) S) : dStrA [d] S R := .inr ⟨d, p, rfl, hn, h, F, q⟩
end
end Dl

namespace Dl
open PySem L2

/-! ## texts that show values: their size -/
mutual
def notFls : D → Bool
  | .fls _ => false
  | .tup ds => notFlss ds
  | _ => true
def notFlss : List D → Bool
  | [] => true
  | d :: ds => notFls d && notFlss ds
end
/-- a text of signs -/
def Cs (x : Str) : Prop := ∀ c ∈ x.cps.toList, c < 16 ^ 8
theorem Cs.app {x y : Str} (h : Cs x) (g : Cs y) : Cs (x ++ y) := fun c hc => by
  have : c ∈ x.cps.toList ++ y.cps.toList := by simpa [Str.cps_append] using hc
  rcases List.mem_append.mp this with q | q
  · exact h c q
  · exact g c q
theorem Cs.cut {x : Str} {lo hi : Option Int} (h : Cs x) : Cs (cutS x lo hi) := fun c hc => by
  refine h c ?_
  simp only [cutS] at hc
  exact List.mem_of_mem_drop (List.mem_of_mem_take hc)
theorem Cs.rep {x : Str} {n : Nat} (h : Cs x) : Cs (repS x n) := fun c hc => by
  simp only [repS, List.mem_flatten, List.mem_replicate] at hc
  obtain ⟨z, ⟨_, rfl⟩, hz⟩ := hc
  exact h c hz
theorem Cs.one {c : Nat} (h : c < 16 ^ 8) : Cs ⟨#[c]⟩ := fun d hd => by
  simp at hd
  rw [hd]
  exact h
theorem Cs.lit {x : Str} (h : (x.cps.toList.all fun c => decide (c < 16 ^ 8)) = true) : Cs x := fun c hc => of_decide_eq_true (List.all_eq_true.mp h c hc)
theorem glue_mem : ∀ (zs : List Str) (acc : Array Nat) (c : Nat), c ∈ (zs.foldl (fun acc p => acc ++ (Str.ofString "").cps ++ p.cps) acc).toList → c ∈ acc.toList ∨ ∃ z ∈ zs, c ∈ z.cps.toList
  | [], acc, c, h => .inl h
  | z :: zs, acc, c, h => by
    have e : (Str.ofString "").cps = #[] := by decide +kernel
    rcases glue_mem zs _ c h with q | ⟨y, hy, q⟩
    · rw [e] at q
      simp only [Array.append_empty, Array.toList_append, List.mem_append] at q
      rcases q with q | q
      · exact .inl q
      · exact .inr ⟨z, by simp, q⟩
    · exact .inr ⟨y, by simp [hy], q⟩
theorem Cs.join {zs : List Str} (h : ∀ z ∈ zs, Cs z) : Cs (Txt.join (Str.ofString "") zs) := fun c hc => by
  have hc' : c ∈ (Builtin.Str.glued (Str.ofString "") zs).cps.toList := hc
  unfold Builtin.Str.glued at hc'
  rcases glue_mem _ _ c hc' with q | ⟨z, hz, q⟩
  · cases zs with
    | nil => simp [Str.empty] at q
    | cons z zs => exact h z (by simp) c (by simpa using q)
  · exact h z (List.mem_of_mem_drop hz) c q
/-- what is shown of a value, of so many values within one another, of so many signs -/
structure Pg (n b : Nat) (hd hl : Bool) (p : PyData) : Prop where
  dp : p.depth ≤ n
  bk : p.bulk ≤ b
  lv : p.leavesShort 50 = true
  sh : p.showable = true
  di : p.hasDict = true → hd = true
  li : hasLst p = true → hl = true
theorem Pg.le {n b n' b' : Nat} {hd hl : Bool} {p : PyData} (h : Pg n b hd hl p) (h1 : n ≤ n') (h2 : b ≤ b') : Pg n' b' hd hl p := ⟨by have := h.dp; omega, by have := h.bk; omega, h.lv, h.sh, h.di, h.li⟩
/-- a value that can be shown so -/
def Tg (S : Sto) (n b : Nat) (hd hl : Bool) (d : D) : Prop := ∃ p, Shw S d p ∧ Pg n b hd hl p
theorem Tg.le {S : Sto} {n b n' b' : Nat} {hd hl : Bool} {d : D} (h : Tg S n b hd hl d) (h1 : n ≤ n') (h2 : b ≤ b') : Tg S n' b' hd hl d :=
  let ⟨p, x, y⟩ := h
  ⟨p, x, y.le h1 h2⟩
theorem Tg.flags {S : Sto} {n b : Nat} {hd hl hd' hl' : Bool} {d : D} (h : Tg S n b hd hl d) (h1 : hd = true → hd' = true) (h2 : hl = true → hl' = true) : Tg S n b hd' hl' d :=
  let ⟨p, x, y⟩ := h
  ⟨p, x, y.dp, y.bk, y.lv, y.sh, fun q => h1 (y.di q), fun q => h2 (y.li q)⟩
theorem Tg.non {S : Sto} {n b : Nat} {hd hl : Bool} : Tg S n b hd hl .non := ⟨_, .non, by simp [PyData.depth], by simp [PyData.bulk], rfl, rfl, by simp [PyData.hasDict], by simp [hasLst]⟩
theorem Tg.bl {S : Sto} {n b : Nat} {hd hl c : Bool} : Tg S n b hd hl (.bl c) := ⟨_, .bl, by simp [PyData.depth], by simp [PyData.bulk], rfl, rfl, by simp [PyData.hasDict], by simp [hasLst]⟩
theorem Tg.int {S : Sto} {n b : Nat} {hd hl : Bool} {i : Int} (h : i.natAbs < 10 ^ 45) : Tg S n b hd hl (.int i) := by
  refine ⟨_, .int, by simp [PyData.depth], by simp [PyData.bulk], ?_, ?_, by simp [PyData.hasDict], by simp [hasLst]⟩
  · have h1 := int_text_length_le10 (k := 45) (by decide) h
    simp only [PyData.leavesShort, decide_eq_true_eq]
    show (Str.ofString (toString i)).length ≤ 50
    rw [PySem.ofString_length]
    omega
  · simp only [PyData.showable, decide_eq_true_eq]
    have : i.natAbs < 2 ^ 1920 := Nat.lt_of_lt_of_le h (by decide +kernel)
    by_cases h0 : i.natAbs = 0
    · rw [h0]; decide
    · exact (Nat.log2_lt h0).mpr this
theorem Tg.str {S : Sto} {n b : Nat} {hd hl : Bool} {x : Str} (h : Cs x) (hb : x.length ≤ b) : Tg S n b hd hl (.str x) := by
  refine ⟨_, .str, by simp [PyData.depth], by simpa [PyData.bulk, Str.length] using hb, ?_, rfl, by simp [PyData.hasDict], by simp [hasLst]⟩
  simp only [PyData.leavesShort, List.all_eq_true, decide_eq_true_eq]
  exact h
/-- values one behind another -/
structure Pgs (n b : Nat) (hd hl : Bool) (ps : List PyData) : Prop where
  dp : PyData.depthAll ps ≤ n
  bk : PyData.bulkAll ps ≤ b
  lv : PyData.leavesShortAll 50 ps = true
  sh : PyData.showableAll ps = true
  di : PyData.hasDictAll ps = true → hd = true
  li : hasLsts ps = true → hl = true
def Tgs (S : Sto) (n b : Nat) (hd hl : Bool) (ds : List D) : Prop := ∃ ps, Shws S ds ps ∧ Pgs n b hd hl ps
theorem Tgs.nil {S : Sto} {n b : Nat} {hd hl : Bool} : Tgs S n b hd hl [] := ⟨[], .nil, by simp [PyData.depthAll], by simp [PyData.bulkAll], by simp [PyData.leavesShortAll], by simp [PyData.showableAll], by simp [PyData.hasDictAll], by simp [hasLsts]⟩
theorem Tgs.cons {S : Sto} {n b c : Nat} {hd hl : Bool} {d : D} {ds : List D} (h : Tg S n b hd hl d) (g : Tgs S n c hd hl ds) : Tgs S n (b + 1 + c) hd hl (d :: ds) := by
  obtain ⟨p, x, y⟩ := h
  obtain ⟨ps, u, v⟩ := g
  refine ⟨p :: ps, .cons x u, ?_, ?_, ?_, ?_, ?_, ?_⟩
  · simp only [PyData.depthAll]; have := y.dp; have := v.dp; omega
  · simp only [PyData.bulkAll]; have := y.bk; have := v.bk; omega
  · simp [PyData.leavesShortAll, y.lv, v.lv]
  · simp [PyData.showableAll, y.sh, v.sh]
  · intro q
    simp only [PyData.hasDictAll, Bool.or_eq_true] at q
    exact q.elim y.di v.di
  · intro q
    simp only [hasLsts, Bool.or_eq_true] at q
    exact q.elim y.li v.li
theorem Tgs.le {S : Sto} {n b n' b' : Nat} {hd hl : Bool} {ds : List D} (h : Tgs S n b hd hl ds) (h1 : n ≤ n') (h2 : b ≤ b') : Tgs S n' b' hd hl ds :=
  let ⟨p, x, y⟩ := h
  ⟨p, x, by have := y.dp; omega, by have := y.bk; omega, y.lv, y.sh, y.di, y.li⟩
theorem Tgs.all {S : Sto} {n b : Nat} {hd hl : Bool} : ∀ {ds : List D}, (∀ d ∈ ds, Tg S n b hd hl d) → Tgs S n (ds.length * (b + 1)) hd hl ds
  | [], _ => .nil
  | d :: ds, h => by
    have e : (d :: ds).length * (b + 1) = b + 1 + ds.length * (b + 1) := by
      rw [List.length_cons, Nat.add_mul]
      omega
    rw [e]
    exact .cons (h d (by simp)) (Tgs.all fun c hc => h c (List.mem_cons_of_mem _ hc))
theorem Tgs.tup {S : Sto} {n b : Nat} {hd hl : Bool} {ds : List D} (h : Tgs S n b hd hl ds) : Tg S (n + 1) b hd hl (.tup ds) := by
  obtain ⟨ps, x, y⟩ := h
  exact ⟨_, .tup x, by simp only [PyData.depth]; have := y.dp; omega, by simp only [PyData.bulk]; exact y.bk, by simp only [PyData.leavesShort]; exact y.lv, by simp only [PyData.showable]; exact y.sh, by simp only [PyData.hasDict]; exact y.di, by simp only [hasLst]; exact y.li⟩
theorem Tgs.lst {S : Sto} {n b l : Nat} {hd : Bool} {ds : List D} (e : S[l]? = some (.lst ds)) (h : Tgs S n b hd true ds) : Tg S (n + 1) b hd true (.loc l) := by
  obtain ⟨ps, x, y⟩ := h
  exact ⟨_, .lst e x, by simp only [PyData.depth]; have := y.dp; omega, by simp only [PyData.bulk]; exact y.bk, by simp only [PyData.leavesShort]; exact y.lv, by simp only [PyData.showable]; exact y.sh, by simp only [PyData.hasDict]; exact y.di, fun _ => rfl⟩
/-- an object that is shown -/
def vis : O → Bool
  | .ins _ _ => false
  | _ => true
mutual
theorem Shw.mono {S S' : Sto} (g : ∀ (l : Nat) (o : O), vis o = true → S[l]? = some o → S'[l]? = some o) : ∀ {d : D} {p : PyData}, Shw S d p → Shw S' d p
  | _, _, .non => .non
  | _, _, .bl => .bl
  | _, _, .int => .int
  | _, _, .str => .str
  | _, _, .tup t => .tup (Shws.mono g t)
  | _, _, .fls t => .fls (Shws.mono g t)
  | _, _, .lst e t => .lst (g _ _ rfl e) (Shws.mono g t)
  | _, _, .dct e t u => .dct (g _ _ rfl e) (Shws.mono g t) (Shws.mono g u)
theorem Shws.mono {S S' : Sto} (g : ∀ (l : Nat) (o : O), vis o = true → S[l]? = some o → S'[l]? = some o) : ∀ {ds : List D} {ps : List PyData}, Shws S ds ps → Shws S' ds ps
  | _, _, .nil => .nil
  | _, _, .cons t ts => .cons (Shw.mono g t) (Shws.mono g ts)
end
/-- the store from m on -/
def blind (m : Nat) (S : Sto) : Sto := List.replicate m (.ins ⟨#[]⟩ []) ++ S.drop m
theorem blind_get {m l : Nat} {S : Sto} {o : O} (h : (blind m S)[l]? = some o) (hv : vis o = true) : m ≤ l ∧ S[l]? = some o := by
  unfold blind at h
  by_cases hl : l < m
  · rw [List.getElem?_append_left (by simpa using hl), List.getElem?_replicate, if_pos hl] at h
    cases h
    cases hv
  · rw [List.getElem?_append_right (by simp; omega), List.getElem?_drop] at h
    refine ⟨by omega, ?_⟩
    simpa [show m + (l - m) = l by omega] using h
theorem get_blind {m l : Nat} {S : Sto} {o : O} (hm : m ≤ l) (h : S[l]? = some o) : (blind m S)[l]? = some o := by
  unfold blind
  rw [List.getElem?_append_right (by simp; omega), List.getElem?_drop]
  simpa [show m + (l - m) = l by omega] using h
theorem Tg.mono {S S' : Sto} {n b : Nat} {hd hl : Bool} {d : D} (g : ∀ (l : Nat) (o : O), vis o = true → S[l]? = some o → S'[l]? = some o) (h : Tg S n b hd hl d) : Tg S' n b hd hl d :=
  let ⟨p, x, y⟩ := h
  ⟨p, x.mono g, y⟩
theorem bulk_mem : ∀ {ps : List PyData}, ps.length ≤ PyData.bulkAll ps
  | [] => by simp
  | p :: ps => by
    have := bulk_mem (ps := ps)
    simp only [PyData.bulkAll, List.length_cons]
    omega
theorem Shws.len {S : Sto} : ∀ {ds : List D} {ps : List PyData}, Shws S ds ps → ds.length = ps.length
  | _, _, .nil => rfl
  | _, _, .cons _ t => by simp [t.len]
/-- str(d) stands for p -/
theorem shown_at {S : Sto} {n b : Nat} {hd hl : Bool} {d : D} {p : PyData} {R : DQ} (h : Shw S d p) (g : Pg n b hd hl p) (hn : n ≤ 150) (hb : b ≤ 300000) (hf : hd = false ∨ hl = false) (q : R (.str (match d with | .str x => x | _ => p.shown)) S) : dStrA [d] S R := by
  cases d with
  | str x => simpa using q
  | _ =>
    refine dStrA_shw h rfl ⟨g.sh, ?_, Nat.le_trans g.dp hn, ?_⟩ q
    · rcases hf with rfl | rfl
      · left
        cases e : p.hasDict with
        | false => rfl
        | true => exact absurd (g.di e) (by simp)
      · right
        cases e : hasLst p with
        | false => rfl
        | true => exact absurd (g.li e) (by simp)
    · have h1 := PyData.shown_le_bulk 50 (by decide) p g.lv
      have h2 := g.bk
      have h3 : (50 + 2) * p.bulk ≤ 52 * 300000 := Nat.mul_le_mul (by decide) (by omega)
      have : sizeLine = 16777216 := sizeLine_eq
      omega
end Dl

namespace Dl
open PySem L2

/-! ## ranges, filtered comprehensions, methods of lists, in of plain values -/
theorem rangeD_split {lo : Int} {n : Nat} {d : D} {r : List D} (h : d :: r = rangeD lo n) : d = .int lo ∧ r = rangeD (lo + 1) (n - 1) ∧ 0 < n := by
  cases n with
  | zero => simp [rangeD] at h
  | succ n =>
    rw [rangeD, List.range_succ_eq_map, List.map_cons, List.map_map] at h
    injection h with h1 h2
    refine ⟨by simpa using h1, ?_, by omega⟩
    rw [h2, rangeD]
    simp only [Nat.add_sub_cancel]
    apply List.map_congr_left
    intro i _
    simp
    omega
theorem lc_filt_go {α : Type} {chk : Sto → Prop} {g : WG} {t : WT} {e : WE} {τ : DEnv} {R : DQ} {I : Sto → Prop} {gd h : α → D} {p : α → Bool} : ∀ {as : List α} {acc : List D} {S : Sto}, I S → (∀ S', I S' → chk S') → acc.length + as.length ≤ sizeLine →
    (∀ a S' (K1 : DQ) (K2 : Sto → Prop), a ∈ as → I S' → (p a = true → ∀ S'', I S'' → K1 (h a) S'') → (p a = false → ∀ S'', I S'' → K2 S'') → g (gd a) τ S' fun τ1 S1 => t τ1 S1 fun b S2 => if b = true then e τ1 S2 K1 else K2 S2) →
    (∀ S', I S' → R (.loc S'.length) (S' ++ [.lst (acc ++ (as.filter p).map h)])) → lcGo chk g t e τ R (as.map gd) acc S
  | [], acc, S, hI, hc, hl, hs, h0 => ⟨hc _ hI, by simpa using h0 S hI⟩
  | d :: r, acc, S, hI, hc, hl, hs, h0 => ⟨hc _ hI, by
    simp only [List.length_cons] at hl
    refine hs d S _ _ List.mem_cons_self hI (fun hp S'' I' => ⟨by omega, ?_⟩) fun hp S'' I' => ?_
    · refine lc_filt_go I' hc (by simp only [List.length_append, List.length_cons, List.length_nil]; omega) (fun d S' K1 K2 hd => hs d S' K1 K2 (List.mem_cons_of_mem _ hd)) fun S' I2 => ?_
      have := h0 S' I2
      simpa [List.filter_cons, hp] using this
    · refine lc_filt_go I' hc (by omega) (fun d S' K1 K2 hd => hs d S' K1 K2 (List.mem_cons_of_mem _ hd)) fun S' I2 => ?_
      have := h0 S' I2
      simpa [List.filter_cons, hp] using this⟩
/-- [e for g in items if t] -/
theorem lc_filt {α : Type} {chk : Sto → Prop} {g : WG} {t : WT} {e : WE} {τ : DEnv} {R : DQ} {as : List α} {S : Sto} (gd h : α → D) (p : α → Bool) (I : Sto → Prop) (hI : I S) (hc : ∀ S', I S' → chk S') (hl : as.length ≤ sizeLine)
    (hs : ∀ a S' (K1 : DQ) (K2 : Sto → Prop), a ∈ as → I S' → (p a = true → ∀ S'', I S'' → K1 (h a) S'') → (p a = false → ∀ S'', I S'' → K2 S'') → g (gd a) τ S' fun τ1 S1 => t τ1 S1 fun b S2 => if b = true then e τ1 S2 K1 else K2 S2)
    (h0 : ∀ S', I S' → R (.loc S'.length) (S' ++ [.lst ((as.filter p).map h)])) : lcGo chk g t e τ R (as.map gd) [] S :=
  lc_filt_go hI hc (by simpa using hl) hs (by simpa using h0)
section
variable {S : Sto} {R : DQ} {i j : Nat} {xs ys : List D} {d c : D}
theorem dExtend_locs (h : S[i]? = some (.lst xs)) (g : S[j]? = some (.lst ys)) : dExtend (.loc i) [.loc j] S R = (xs.length + ys.length ≤ sizeLine ∧ R .non (S.set i (.lst (xs ++ ys)))) := by simp [dExtend, h, g]
theorem dReverse_loc (h : S[i]? = some (.lst xs)) : dReverse (.loc i) [] S R = R .non (S.set i (.lst xs.reverse)) := by simp [dReverse, h]
theorem dClear_loc (h : S[i]? = some (.lst xs)) : dClear (.loc i) [] S R = R .non (S.set i (.lst [])) := by simp [dClear, h]
theorem dPop_loc (h : S[i]? = some (.lst xs)) : dPop (.loc i) [] S R = ∃ y, xs[xs.length - 1]? = some y ∧ R y (S.set i (.lst xs.dropLast)) := by simp [dPop, h]
theorem dInsert_loc {n : Int} (h : S[i]? = some (.lst xs)) : dInsert (.loc i) [.int n, d] S R = (xs.length < sizeLine ∧ 0 ≤ n ∧ n < 2 ^ 63 ∧ R .non (S.set i (.lst (xs.take n.toNat ++ [d] ++ xs.drop n.toNat)))) := by simp [dInsert, h]
theorem inKeys_plain {n : Nat} {k : NestedKey} (hd : plainD n d = true) (h1 : keyOf d = some k) : ∀ {xs : List D} {ks : List NestedKey}, plainsD n xs = true → keyOf.keysOf xs = some ks → inKeys k ks = decide (d ∈ xs)
  | [], ks, _, h => by
    cases (show some [] = some ks from h)
    simp [inKeys]
  | x :: xs, ks, hp, h => by
    unfold keyOf.keysOf at h
    simp only [plainsD, Bool.and_eq_true] at hp
    cases e1 : keyOf x with
    | none => rw [e1] at h; cases h
    | some k2 =>
      cases e2 : keyOf.keysOf xs with
      | none => rw [e1, e2] at h; cases h
      | some ks2 =>
        rw [e1, e2] at h
        cases h
        have ih := inKeys_plain hd h1 hp.2 e2
        have e3 : NestedKey.beq k2 k = decide (x = d) := by
          cases q : NestedKey.beq k2 k with
          | true =>
            have := NestedKey.eq_of_beq k2 k q
            subst this
            exact (decide_eq_true (key_inj n x d k2 hp.1 hd e1 h1)).symm
          | false =>
            refine (decide_eq_false fun z => ?_).symm
            subst z
            rw [e1] at h1
            cases h1
            rw [NestedKey.beq_self] at q
            cases q
        unfold inKeys at ih ⊢
        rw [List.any_cons, ih, e3, Bool.eq_iff_iff]
        simp only [Bool.or_eq_true, decide_eq_true_eq, List.mem_cons]
        exact or_congr ⟨Eq.symm, Eq.symm⟩ Iff.rfl
theorem inD_plain (h : seqD S c = some xs) (hd : plainD 100 d = true) (hx : plainsD 100 xs = true) : inD S d c = some (decide (d ∈ xs)) := by
  obtain ⟨k, h1, h2⟩ := key_plain 100 d hd
  obtain ⟨ks, h3, _⟩ := keys_plain 100 xs hx
  unfold inD
  simp only [h, h1, h3]
  rw [if_pos h2, inKeys_plain hd h1 hx h3]
theorem dIn_plain (h : seqD S c = some xs) (hd : plainD 100 d = true) (hx : plainsD 100 xs = true) (q : R (.bl (decide (d ∈ xs))) S) : dIn d c S R := .inl (.inl ⟨_, inD_plain h hd hx, q⟩)
theorem dNotIn_plain (h : seqD S c = some xs) (hd : plainD 100 d = true) (hx : plainsD 100 xs = true) (q : R (.bl (!decide (d ∈ xs))) S) : dNotIn d c S R := .inl (.inl ⟨_, inD_plain h hd hx, q⟩)
theorem plains_strs {n : Nat} : ∀ ws : List Str, plainsD n (ws.map D.str) = true
  | [] => by simp [plainsD]
  | w :: ws => by simp [plainsD, plainD, plains_strs ws]
theorem mem_strs {x : Str} {ws : List Str} : D.str x ∈ ws.map D.str ↔ x ∈ ws := by simp
end
/-- str(d), asked again and again -/
theorem Tg.text {S : Sto} {n b : Nat} {hd hl : Bool} {d : D} (h : Tg S n b hd hl d) (hn : n ≤ 150) (hb : b ≤ 300000) (hf : hd = false ∨ hl = false) :
    ∃ tx : Str, ∀ (S' : Sto), (∀ (l : Nat) (o : O), vis o = true → S[l]? = some o → S'[l]? = some o) → ∀ R : DQ, R (.str tx) S' → dStrA [d] S' R := by
  obtain ⟨p, x, y⟩ := h
  cases d with
  | str z => exact ⟨z, fun S' g R q => shown_at (x.mono g) y hn hb hf q⟩
  | _ => exact ⟨p.shown, fun S' g R q => shown_at (x.mono g) y hn hb hf q⟩
end Dl

namespace Dl
open PySem L2 PyProof.Rows PySem.Spec

/-! ## dict(d): a copy of a dict whose keys are texts -/
/-- a key that is a text, and its value, as the machine has them -/
def TxE (X : Cx) (ρ : List Addr) (H : Hp) (p : D × D) (q : Str × Value) : Prop := p.1 = .str q.1 ∧ ∃ dv, VR X.K ρ H p.2 dv ∧ RelV dv q.2
section
variable {X : Cx} {pins : List (Addr × Obj)} {σ : L2.St} {H : Hp} {s : Shared} {ρ : List Addr} {S : Sto} {l : Nat} {a : Addr} {kvs : List (D × D)} {ep : Nat}
theorem txE_of : ∀ {kvs : List (D × D)} {es : List DictEntry}, (∀ p ∈ kvs, ∃ x, p.1 = .str x) → Paired (EntR X.w X.K ρ H) kvs es → ∃ qs, Pairs (strKind X.prog X.w) es qs ∧ Paired (TxE X ρ H) kvs qs
  | _, _, _, .nil => ⟨[], .nil, .nil⟩
  | p :: kvs, e :: es, hk, .cons r t => by
    obtain ⟨qs, h1, h2⟩ := txE_of (fun p hp => hk p (List.mem_cons_of_mem _ hp)) t
    obtain ⟨x, hx⟩ := hk p List.mem_cons_self
    obtain ⟨k, kv, dv, g1, _, g3, g4, g5, g6, g7⟩ := r
    rw [hx] at g1 g4
    cases (show some (NestedKey.text x) = some k from g1)
    cases g4.str_of
    obtain ⟨t2, ht⟩ := (show ∃ t, e.key = Value.str x t from g5)
    have hi : (strKind X.prog X.w).is x e.key = true := by
      rw [ht]
      show Value.isStrOf x (Value.str x t2) = true
      simp [Value.isStrOf]
    exact ⟨(x, e.val) :: qs, .cons hi rfl h1, .cons ⟨hx, dv, g6, g7⟩ h2⟩
theorem txE_nodup : ∀ {kvs : List (D × D)} {qs : List (Str × Value)}, Paired (TxE X ρ H) kvs qs → (kvs.map fun p => keyOf p.1) = qs.map fun q => some (NestedKey.text q.1)
  | _, _, .nil => rfl
  | _, _, .cons r t => by
    rw [List.map_cons, List.map_cons, txE_nodup t, r.1]
    rfl
theorem nodup_of_some {α β : Type} {f : α → β} : ∀ {l : List α}, (l.map f).Nodup → ∀ g : β → α, (∀ a, g (f a) = a) → l.Nodup := fun h g hg => by
  have := h
  rw [List.nodup_iff_pairwise_ne] at this ⊢
  rw [List.pairwise_map] at this
  exact this.imp fun ne e => ne (by rw [e])
theorem tx_keys {es : Array DictEntry} (hk : ∀ p ∈ kvs, ∃ x, p.1 = .str x) (pr : Paired (EntR X.w X.K ρ H) kvs es.toList) : PySem.KeysOf (strKind X.prog X.w) es := by
  intro e he
  obtain ⟨j, hj⟩ := List.mem_iff_getElem?.mp (Array.mem_toList_iff.mpr he)
  obtain ⟨p, hp, k, kv, dv, g1, _, g3, g4, g5, _, _⟩ := paired_get2 pr hj
  obtain ⟨x, hx⟩ := hk p (List.mem_of_getElem? hp)
  rw [hx] at g1 g4
  cases (show some (NestedKey.text x) = some k from g1)
  cases g4.str_of
  obtain ⟨t2, ht⟩ := (show ∃ t, e.key = Value.str x t from g5)
  refine ⟨x, ?_, g3⟩
  rw [ht]
  show Value.isStrOf x (Value.str x t2) = true
  simp [Value.isStrOf]
/-- a dict of texts of the store, as the library has it -/
theorem tx_dict (I : L2.Inv X pins σ H s) (h : OR X.w X.K X.mg ρ H a (.dct ep kvs)) (hk : ∀ p ∈ kvs, ∃ x, p.1 = .str x) :
    ∃ qs, (a == sysModules) = false ∧ kvs.length ≤ sizeLine ∧ s.heap.DictOf (strKind X.prog X.w) a qs ∧ Paired (TxE X ρ H) kvs qs := by
  obtain ⟨h1, h2, h3, es, h4, h5⟩ := h
  obtain ⟨o, ho, hx, hd⟩ := (I.hok a _ h4).1
  obtain ⟨qs, g1, g2⟩ := txE_of hk h5
  refine ⟨qs, h1, h2, ⟨o, es, ep, ho, hx, hd, tx_keys hk h5, g1, ?_⟩, g2⟩
  rw [txE_nodup g2] at h3
  have e : (qs.map fun q => some (NestedKey.text q.1)) = (qs.map (·.1)).map fun x => some (NestedKey.text x) := by rw [List.map_map]; rfl
  rw [e] at h3
  exact nodup_of_some h3 (fun k => match k with | some (.text x) => x | _ => ⟨#[]⟩) fun _ => rfl
theorem tx_ent : ∀ {kvs : List (D × D)} {qs : List (Str × Value)} {es : List DictEntry}, Paired (TxE X ρ H) kvs qs → Pairs (strKind X.prog X.w) es qs → (∀ e ∈ es, ∃ k, (strKind X.prog X.w).is k e.key = true ∧ e.hash = (strKind X.prog X.w).hash k) → Paired (EntR X.w X.K ρ H) kvs es
  | _, _, _, .nil, .nil, _ => .nil
  | p :: _, q :: _, e :: _, .cons ⟨r1, dv, r2, r3⟩ t, .cons g1 g2 t2, hk => by
    refine .cons ⟨.text q.1, .str q.1, dv, by rw [r1]; rfl, Nat.zero_le _, ?_, by rw [r1]; exact .str, ?_, r2, by rw [g2]; exact r3⟩ (tx_ent t t2 fun e he => hk e (List.mem_cons_of_mem _ he))
    · obtain ⟨k, k1, k2⟩ := hk e List.mem_cons_self
      have := Value.isStrOf_inj _ _ _ k1 g1
      rw [k2, this]
      rfl
    · exact Value.isStrOf_shape g1
/-- dict(d) -/
def dDictC : DCall := fun ds S R => ∃ l ep kvs, ds = [.loc l] ∧ S[l]? = some (.dct ep kvs) ∧ (∀ p ∈ kvs, ∃ x, p.1 = .str x) ∧ ∀ ep', R (.loc S.length) (S ++ [.dct ep' kvs])
theorem cd_dictC : CallR X (.type "dict") (rCD X dDictC) := by
  intro pins s σ H xs us Q I rs ⟨ρ, S, ds, R, W, r, ⟨l, ep, kvs, e1, h1, hk, q⟩, p⟩
  subst e1
  obtain ⟨v, rfl, rv⟩ := r.one_of
  obtain ⟨a, h3, rfl⟩ := rv.loc_of
  cases rs with
  | @cons _ u _ _ r3 t =>
  cases t
  cases (show u = Value.ref a from r3)
  have hO := W.obj l a _ h3 h1
  obtain ⟨qs, g1, g2, g3, g4⟩ := tx_dict I hO hk
  obtain ⟨_, _, hnd, _⟩ := hO
  have hl : qs.length = kvs.length := by have := congrArg List.length (txE_nodup g4); simpa using this.symm
  refine kt_call_dict g1 g3 (by rw [hl]; exact g2) fun h' hd hs => ?_
  obtain ⟨o, es, ep', ho, hx, hdat, hks, hpr, _⟩ := hd
  have hn := I.hok.fresh (Nat.le_refl s.heap.objs.size)
  have hob : DictObj s.heap.objs.size es ep' h' := ⟨o, ho, hx, hdat⟩
  have I1 := I.laid (a := s.heap.objs.size) (o := .ext (DictObj s.heap.objs.size es ep')) (h' := h') (t' := s.toks) (fun b o q => (hs.2 b (Nat.ne_of_lt (Heap.lt_size q))).trans (Heap.get?_push_of_some _ q)) (Nat.le_refl _) (ext_ok hob)
  refine ⟨.ref s.heap.objs.size, _, I1, rfl, ?_⟩
  have vx := (ext_alloc (ρ := ρ) (u := .ext (DictObj s.heap.objs.size es ep')) hn).vx W.sep
  refine p _ _ (q ep') _ _ _ (ext_alloc hn) (W.alloc hn ⟨sys_new I.big, g2, hnd, es, upd_same, ?_⟩) (.loc (by rw [← W.len]; exact List.getElem?_concat_length ..))
  refine Paired.mapP (tx_ent g4 hpr fun e he => ?_) fun p e z => z.vx vx
  exact hks e (Array.mem_toList_iff.mp he)
/-- list(d): the keys -/
def dListK : DCall := fun ds S R => ∃ l ep kvs, ds = [.loc l] ∧ S[l]? = some (.dct ep kvs) ∧ R (.loc S.length) (S ++ [.lst (kvs.map (·.1))])
theorem vals_at {vs : List V} : ∀ {us : List Value}, us.length = vs.length → (∀ (j : Nat) (u : Value), us[j]? = some u → ∃ v, vs[j]? = some v ∧ RelV v u) → Vals vs us := by
  induction vs with
  | nil =>
    intro us h _
    cases us with
    | nil => exact .nil
    | cons _ _ => simp at h
  | cons v vs ih =>
    intro us h f
    cases us with
    | nil => simp at h
    | cons u us =>
      obtain ⟨v', e, r⟩ := f 0 u rfl
      cases (show some v = some v' from e)
      exact .cons r (ih (by simpa using h) fun j u e => f (j + 1) u e)
theorem vals_ix {vs : List V} {us : List Value} (h : Vals vs us) : ∀ {j : Nat} {u : Value}, us[j]? = some u → ∃ v, vs[j]? = some v ∧ RelV v u := by
  induction h with
  | nil => intro j u e; simp at e
  | cons r _ ih =>
    intro j u e
    cases j with
    | zero =>
      cases e
      exact ⟨_, rfl, r⟩
    | succ j => exact ih (j := j) e
theorem cd_listK (hc : X.calm = true) : CallR X (.type "list") (rCD X dListK) := by
  intro pins s σ H xs us Q I rs ⟨ρ, S, ds, R, W, r, ⟨l, ep, kvs, e1, h1, q⟩, p⟩
  subst e1
  obtain ⟨v, rfl, rv⟩ := r.one_of
  obtain ⟨a, h3, rfl⟩ := rv.loc_of
  cases rs with
  | @cons _ u _ _ r3 t =>
  cases t
  cases (show u = Value.ref a from r3)
  obtain ⟨es, ks, T⟩ := dat_of I (W.obj l a _ h3 h1)
  have hsz : es.size ≤ sizeLine := by rw [T.size]; exact T.le
  obtain ⟨⟨vs, a1, a2⟩, _⟩ := ent_two (X := X) T.pr
  refine PySem.W.kdl_call (KdlSrc.rawDict T.sys) (I.ok.hd hc) T.rw.ob hsz fun h' tk acc c hkeep hat hacc => ?_
  have hn := I.hok.fresh (Nat.le_refl s.heap.objs.size)
  have hlen : vs.length = kvs.length := by have := a1.length; simpa using this
  have hv : Vals vs acc.toList := vals_at (by rw [hlen, ← T.size, ← hacc.1]; simp) fun j u e => by
    obtain ⟨hi, e2⟩ := hacc.2 j u (by rw [← Array.getElem?_toList]; exact e)
    refine vals_ix a2 (j := j) ?_
    rw [List.getElem?_map, Array.getElem?_toList, Array.getElem?_eq_getElem hi, e2]
    rfl
  have I1 := I.laid (a := s.heap.objs.size) (o := .lst vs) (h' := h') (t' := tk) (fun b o q => hkeep b o q) (Nat.le_refl _) ⟨by rw [hlen]; exact T.le, acc.toList, c, hv, by rw [Array.toArray_toList]; exact hat⟩
  exact ⟨.ref s.heap.objs.size, _, I1, rfl, new_lst W a1 q p hn⟩
def dListA : DCall := callOr dList dListK
theorem cd_listA (hc : X.calm = true) : CallR X (.type "list") (rCD X dListA) := CallD.or cd_list (cd_listK hc)
end
section
variable {S : Sto} {R : DQ} {i l ep : Nat} {xs : List D} {d : D} {kvs : List (D × D)}
theorem dListA_seq (h : seqD S d = some xs) (q : R (.loc S.length) (S ++ [.lst xs])) : dListA [d] S R := .inl ⟨d, xs, rfl, h, q⟩
theorem dListA_dct (h : S[l]? = some (.dct ep kvs)) : dListA [.loc l] S R = R (.loc S.length) (S ++ [.lst (kvs.map (·.1))]) := by
  simp [dListA, callOr, dList, dListK, seqD, h]
@[simp] theorem dListA_tup : dListA [.tup xs] S R = R (.loc S.length) (S ++ [.lst xs]) := by simp [dListA, callOr, dList, dListK]
@[simp] theorem dListA_fls : dListA [.fls xs] S R = R (.loc S.length) (S ++ [.lst xs]) := by simp [dListA, callOr, dList, dListK]
theorem dListA_loc (h : S[l]? = some (.lst xs)) : dListA [.loc l] S R = R (.loc S.length) (S ++ [.lst xs]) := by
  simp [dListA, callOr, dList, dListK, seqD, h]
theorem dDictC_loc (h : S[l]? = some (.dct ep kvs)) (hk : ∀ p ∈ kvs, ∃ x, p.1 = .str x) (q : ∀ ep', R (.loc S.length) (S ++ [.dct ep' kvs])) : dDictC [.loc l] S R := ⟨l, ep, kvs, rfl, h, hk, q⟩
end
end Dl

namespace Dl
open PySem L2 PyProof.Rows PySem.Spec

/-! ## an order of plain values -/
mutual
def cmpT : D → D → Ordering
  | .non, .non => .eq
  | .non, _ => .lt
  | .int a, .int b => if a < b then .lt else if b < a then .gt else .eq
  | .int _, .non => .gt
  | .int _, _ => .lt
  | .str x, .str y => if x.cps.toList < y.cps.toList then .lt else if y.cps.toList < x.cps.toList then .gt else .eq
  | .str _, .tup _ => .lt
  | .str _, _ => .gt
  | .tup xs, .tup ys => cmpTs xs ys
  | _, _ => .gt
def cmpTs : List D → List D → Ordering
  | [], [] => .eq
  | [], _ :: _ => .lt
  | _ :: _, [] => .gt
  | d :: ds, c :: cs => match cmpT d c with
    | .eq => cmpTs ds cs
    | o => o
end
mutual
/-- whole numbers, texts, None, tuples of these -/
def pureD : D → Bool
  | .non => true
  | .int _ => true
  | .str _ => true
  | .tup ds => puresD ds
  | _ => false
def puresD : List D → Bool
  | [] => true
  | d :: ds => pureD d && puresD ds
end
theorem str_toList {x y : Str} (h : x.cps.toList = y.cps.toList) : x = y := by
  obtain ⟨a⟩ := x
  obtain ⟨b⟩ := y
  simp only at h
  rw [Array.toList_inj.mp h]
theorem if3 {p q : Prop} [Decidable p] [Decidable q] : (if p then Ordering.lt else if q then .gt else .eq) = .eq ↔ ¬ p ∧ ¬ q := by
  by_cases hp : p <;> by_cases hq : q <;> simp [hp, hq]
mutual
theorem cmpT_eq : ∀ d c : D, pureD d = true → pureD c = true → (cmpT d c = .eq ↔ d = c)
  | .non, c, _, hc => by cases c <;> simp [cmpT, pureD] at hc ⊢
  | .int a, c, _, hc => by
    cases c with
    | int b =>
      rw [cmpT, if3, D.int.injEq]
      omega
    | _ => simp [cmpT, pureD] at hc ⊢
  | .str x, c, _, hc => by
    cases c with
    | str y =>
      rw [cmpT, if3, D.str.injEq]
      refine ⟨fun ⟨h1, h2⟩ => str_toList (List.le_antisymm (List.not_lt.mp h2) (List.not_lt.mp h1)), fun e => ?_⟩
      subst e
      exact ⟨List.lt_irrefl _, List.lt_irrefl _⟩
    | _ => simp [cmpT, pureD] at hc ⊢
  | .tup xs, c, hd, hc => by
    cases c with
    | tup ys =>
      rw [cmpT, D.tup.injEq]
      exact cmpTs_eq xs ys (by simpa [pureD] using hd) (by simpa [pureD] using hc)
    | _ => simp [cmpT, pureD] at hc ⊢
  | .bl _, c, hd, _ => by simp [pureD] at hd
  | .fls _, c, hd, _ => by simp [pureD] at hd
  | .loc _, c, hd, _ => by simp [pureD] at hd
theorem cmpTs_eq : ∀ ds cs : List D, puresD ds = true → puresD cs = true → (cmpTs ds cs = .eq ↔ ds = cs)
  | [], [], _, _ => by simp [cmpTs]
  | [], _ :: _, _, _ => by simp [cmpTs]
  | _ :: _, [], _, _ => by simp [cmpTs]
  | d :: ds, c :: cs, hd, hc => by
    simp only [puresD, Bool.and_eq_true] at hd hc
    have h1 := cmpT_eq d c hd.1 hc.1
    have h2 := cmpTs_eq ds cs hd.2 hc.2
    rw [cmpTs, List.cons.injEq, ← h1, ← h2]
    cases cmpT d c <;> simp
end
theorem if3_swap {p q : Prop} [Decidable p] [Decidable q] (h : p → ¬ q) : (if q then Ordering.lt else if p then .gt else .eq) = (if p then Ordering.lt else if q then .gt else .eq).swap := by
  by_cases hp : p
  · have := h hp
    simp [hp, this]
  · by_cases hq : q <;> simp [hp, hq]
mutual
theorem cmpT_swap : ∀ d c : D, pureD d = true → pureD c = true → cmpT c d = (cmpT d c).swap
  | .non, c, _, hc => by cases c <;> simp [cmpT, pureD] at hc ⊢
  | .int a, c, _, hc => by
    cases c with
    | int b =>
      rw [cmpT, cmpT]
      exact if3_swap fun h => by omega
    | _ => simp [cmpT, pureD] at hc ⊢
  | .str x, c, _, hc => by
    cases c with
    | str y =>
      rw [cmpT, cmpT]
      exact if3_swap fun h => List.not_lt.mpr (List.le_of_lt h)
    | _ => simp [cmpT, pureD] at hc ⊢
  | .tup xs, c, hd, hc => by
    cases c with
    | tup ys =>
      rw [cmpT, cmpT]
      exact cmpTs_swap xs ys (by simpa [pureD] using hd) (by simpa [pureD] using hc)
    | _ => simp [cmpT, pureD] at hc ⊢
  | .bl _, c, hd, _ => by simp [pureD] at hd
  | .fls _, c, hd, _ => by simp [pureD] at hd
  | .loc _, c, hd, _ => by simp [pureD] at hd
theorem cmpTs_swap : ∀ ds cs : List D, puresD ds = true → puresD cs = true → cmpTs cs ds = (cmpTs ds cs).swap
  | [], [], _, _ => by simp [cmpTs]
  | [], _ :: _, _, _ => by simp [cmpTs]
  | _ :: _, [], _, _ => by simp [cmpTs]
  | d :: ds, c :: cs, hd, hc => by
    simp only [puresD, Bool.and_eq_true] at hd hc
    rw [cmpTs, cmpTs, cmpT_swap d c hd.1 hc.1, cmpTs_swap ds cs hd.2 hc.2]
    cases cmpT d c <;> simp
end
theorem if3_lt {p q : Prop} [Decidable p] [Decidable q] : (if p then Ordering.lt else if q then .gt else .eq) = .lt ↔ p := by
  by_cases hp : p <;> by_cases hq : q <;> simp [hp, hq]
mutual
theorem cmpT_trans : ∀ d c b : D, pureD d = true → pureD c = true → pureD b = true → cmpT d c = .lt → cmpT c b = .lt → cmpT d b = .lt
  | .non, c, b, _, hc, hb, h1, h2 => by
    cases c <;> cases b <;> simp [cmpT, pureD] at h1 h2 hc hb ⊢
  | .int a, c, b, _, hc, hb, h1, h2 => by
    cases c with
    | int c =>
      cases b with
      | int b =>
        rw [cmpT, if3_lt] at h1 h2 ⊢
        omega
      | _ => simp [cmpT, pureD] at h1 h2 hb ⊢
    | _ => cases b <;> simp [cmpT, pureD] at h1 h2 hc hb ⊢
  | .str x, c, b, _, hc, hb, h1, h2 => by
    cases c with
    | str c =>
      cases b with
      | str b =>
        rw [cmpT, if3_lt] at h1 h2 ⊢
        exact List.lt_trans h1 h2
      | _ => simp [cmpT, pureD] at h1 h2 hb ⊢
    | _ => cases b <;> simp [cmpT, pureD] at h1 h2 hc hb ⊢
  | .tup xs, c, b, hd, hc, hb, h1, h2 => by
    cases c with
    | tup ys =>
      cases b with
      | tup zs =>
        rw [cmpT] at h1 h2 ⊢
        exact cmpTs_trans xs ys zs (by simpa [pureD] using hd) (by simpa [pureD] using hc) (by simpa [pureD] using hb) h1 h2
      | _ => simp [cmpT] at h2
    | _ => simp [cmpT] at h1
  | .bl _, c, b, hd, _, _, _, _ => by simp [pureD] at hd
  | .fls _, c, b, hd, _, _, _, _ => by simp [pureD] at hd
  | .loc _, c, b, hd, _, _, _, _ => by simp [pureD] at hd
theorem cmpTs_trans : ∀ ds cs bs : List D, puresD ds = true → puresD cs = true → puresD bs = true → cmpTs ds cs = .lt → cmpTs cs bs = .lt → cmpTs ds bs = .lt
  | [], [], _, _, _, _, h1, _ => by simp [cmpTs] at h1
  | _ :: _, [], _, _, _, _, h1, _ => by simp [cmpTs] at h1
  | _, _ :: _, [], _, _, _, _, h2 => by simp [cmpTs] at h2
  | [], _ :: _, _ :: _, _, _, _, _, _ => by simp [cmpTs]
  | d :: ds, c :: cs, b :: bs, hd, hc, hb, h1, h2 => by
    simp only [puresD, Bool.and_eq_true] at hd hc hb
    rw [cmpTs] at h1 h2 ⊢
    cases e1 : cmpT d c with
    | gt => simp [e1] at h1
    | eq =>
      have := (cmpT_eq d c hd.1 hc.1).mp e1
      subst this
      simp only [e1] at h1
      cases e2 : cmpT d b with
      | gt => simp [e2] at h2
      | lt => simp
      | eq =>
        simp only [e2] at h2 ⊢
        exact cmpTs_trans ds cs bs hd.2 hc.2 hb.2 h1 h2
    | lt =>
      cases e2 : cmpT c b with
      | gt => simp [e2] at h2
      | lt => simp [cmpT_trans d c b hd.1 hc.1 hb.1 e1 e2]
      | eq =>
        have := (cmpT_eq c b hc.1 hb.1).mp e2
        subst this
        simp [e1]
end
def ltT (d c : D) : Bool := cmpT d c == .lt
theorem ltT_iff {d c : D} : ltT d c = true ↔ cmpT d c = .lt := by simp [ltT]
theorem ltT_asym {d c : D} (hd : pureD d = true) (hc : pureD c = true) (h : ltT d c = true) : ltT c d = false := by
  rw [ltT_iff] at h
  rw [ltT, cmpT_swap d c hd hc, h]
  rfl
theorem ltT_tri {d c : D} (hd : pureD d = true) (hc : pureD c = true) (h1 : ltT d c = false) (h2 : ltT c d = false) : d = c := by
  rw [← cmpT_eq d c hd hc]
  rw [ltT, cmpT_swap d c hd hc] at h2
  rw [ltT] at h1
  cases e : cmpT d c with
  | eq => rfl
  | lt => simp [e] at h1
  | gt => simp [e] at h2
theorem ltT_neg {d c b : D} (hd : pureD d = true) (hc : pureD c = true) (hb : pureD b = true) (h1 : ltT d c = false) (h2 : ltT c b = false) : ltT d b = false := by
  cases e : ltT d b with
  | false => rfl
  | true =>
    cases e1 : ltT c d with
    | false =>
      have := ltT_tri hd hc h1 e1
      subst this
      rw [e] at h2
      cases h2
    | true =>
      have := cmpT_trans c d b hc hd hb (ltT_iff.mp e1) (ltT_iff.mp e)
      rw [ltT, this] at h2
      cases h2
theorem ltT_self (d : D) (hd : pureD d = true) : ltT d d = false := by
  cases e : ltT d d with
  | false => rfl
  | true => rw [ltT_asym hd hd e] at e; cases e
theorem swo_D {rd : Value → D} (h : ∀ v, pureD (rd v) = true) : SrtO.Swo fun u v => ltT (rd u) (rd v) := ⟨fun x y e => ltT_asym (h x) (h y) e, fun x y z h1 h2 => ltT_neg (h z) (h y) (h x) h2 h1⟩

/-! ### values read as such -/
mutual
inductive PlV (h : Heap) : D → Value → Prop
  | non : PlV h .non .none
  | int {i : Int} {t : Tok} : PlV h (.int i) (.int i t)
  | str {x : Str} {t : Tok} : PlV h (.str x) (.str x t)
  | tup {ds : List D} {a : Addr} {us : Array Value} : h.IsTuple a us → PlVs h ds us.toList → PlV h (.tup ds) (.ref a)
inductive PlVs (h : Heap) : List D → List Value → Prop
  | nil : PlVs h [] []
  | cons {d : D} {ds : List D} {u : Value} {us : List Value} : PlV h d u → PlVs h ds us → PlVs h (d :: ds) (u :: us)
end
mutual
theorem PlV.pure {h : Heap} : ∀ {d : D} {u : Value}, PlV h d u → pureD d = true
  | _, _, .non => rfl
  | _, _, .int => rfl
  | _, _, .str => rfl
  | _, _, .tup _ t => by rw [pureD]; exact PlVs.pure t
theorem PlVs.pure {h : Heap} : ∀ {ds : List D} {us : List Value}, PlVs h ds us → puresD ds = true
  | _, _, .nil => rfl
  | _, _, .cons r t => by rw [puresD, PlV.pure r, PlVs.pure t]; rfl
end
mutual
theorem PlV.keep {h h' : Heap} (k : ∀ a us, h.IsTuple a us → h'.IsTuple a us) : ∀ {d : D} {u : Value}, PlV h d u → PlV h' d u
  | _, _, .non => .non
  | _, _, .int => .int
  | _, _, .str => .str
  | _, _, .tup i t => .tup (k _ _ i) (PlVs.keep k t)
theorem PlVs.keep {h h' : Heap} (k : ∀ a us, h.IsTuple a us → h'.IsTuple a us) : ∀ {ds : List D} {us : List Value}, PlVs h ds us → PlVs h' ds us
  | _, _, .nil => .nil
  | _, _, .cons r t => .cons (PlV.keep k r) (PlVs.keep k t)
end
theorem isTuple_inj {h : Heap} {a : Addr} {us ws : Array Value} (x : h.IsTuple a us) (y : h.IsTuple a ws) : us = ws := by
  obtain ⟨o, h1, _, n, h2⟩ := x
  obtain ⟨o', h3, _, n', h4⟩ := y
  rw [h1] at h3
  cases h3
  rw [h2] at h4
  cases h4
  rfl
mutual
theorem PlV.inj {h : Heap} : ∀ {d c : D} {u : Value}, PlV h d u → PlV h c u → d = c
  | _, _, _, .non, y => by cases y; rfl
  | _, _, _, .int, y => by cases y; rfl
  | _, _, _, .str, y => by cases y; rfl
  | _, _, _, .tup i t, y => by
    cases y with
    | tup i2 t2 =>
      have := isTuple_inj i i2
      subst this
      rw [PlVs.inj t t2]
theorem PlVs.inj {h : Heap} : ∀ {ds cs : List D} {us : List Value}, PlVs h ds us → PlVs h cs us → ds = cs
  | _, _, _, .nil, y => by cases y; rfl
  | _, _, _, .cons r t, y => by
    cases y with
    | cons r2 t2 => rw [PlV.inj r r2, PlVs.inj t t2]
end
section
variable {X : Cx} {pins : List (Addr × Obj)} {σ : L2.St} {H : Hp} {s : Shared} {ρ : List Addr}
mutual
theorem plV_of (I : L2.Inv X pins σ H s) : ∀ (n : Nat) (d : D) (v : V) (u : Value), plainD n d = true → VR X.K ρ H d v → RelV v u → PlV s.heap d u
  | n, .non, v, u, _, h, r => by
    cases h.non_of
    cases (show u = Value.none from r)
    exact .non
  | n, .int i, v, u, _, h, r => by
    cases h.int_of
    obtain ⟨t, rfl⟩ := (show ∃ t, u = Value.int i t from r)
    exact .int
  | n, .str x, v, u, _, h, r => by
    cases h.str_of
    obtain ⟨t, rfl⟩ := (show ∃ t, u = Value.str x t from r)
    exact .str
  | 0, .tup ds, v, u, hp, h, r => by simp [plainD] at hp
  | n + 1, .tup ds, v, u, hp, h, r => by
    obtain ⟨a, vs, rfl, h1, h2⟩ := h.tup_of
    cases (show u = Value.ref a from r)
    obtain ⟨its, rv, t1, _⟩ := I.tuple h1.sq
    exact .tup t1 (by simpa using plVs_of I n ds vs its (plainD_tup.mp hp).2 h2 rv)
  | n, .bl _, v, u, hp, _, _ => by simp [plainD] at hp
  | n, .fls _, v, u, hp, _, _ => by simp [plainD] at hp
  | n, .loc _, v, u, hp, _, _ => by simp [plainD] at hp
theorem plVs_of (I : L2.Inv X pins σ H s) : ∀ (n : Nat) (ds : List D) (vs : List V) (us : List Value), plainsD n ds = true → VRs X.K ρ H ds vs → Vals vs us → PlVs s.heap ds us
  | n, [], vs, us, _, h, r => by
    cases h.nil_of
    cases r
    exact .nil
  | n, d :: ds, vs, us, hp, h, r => by
    unfold VRs at h
    obtain ⟨v, vr, rfl, h1, h2⟩ := h
    simp only [plainsD, Bool.and_eq_true] at hp
    cases r with
    | cons r1 r2 => exact .cons (plV_of I n d v _ hp.1 h1 r1) (plVs_of I n ds vr _ hp.2 h2 r2)
end
end
/-! ### ==, < of values read -/
mutual
theorem PlV.nested {h : Heap} : ∀ {d : D} {u : Value}, PlV h d u → ∃ k, keyOf d = some k ∧ NestedIs h k u
  | _, _, .non => ⟨.none, rfl, .none⟩
  | _, _, .int => ⟨.num _, rfl, .int _ _⟩
  | _, _, .str => ⟨.text _, rfl, .text _ _⟩
  | _, _, .tup (ds := ds) i t => by
    obtain ⟨ks, h1, h2⟩ := PlVs.nested t
    obtain ⟨o, g1, g2, n, g3⟩ := i
    exact ⟨.tup ks, by show (keyOf.keysOf ds).map NestedKey.tup = _; rw [h1]; rfl, .tup g1 g2 g3 h2⟩
theorem PlVs.nested {h : Heap} : ∀ {ds : List D} {us : List Value}, PlVs h ds us → ∃ ks, keyOf.keysOf ds = some ks ∧ NestedAll h ks us
  | _, _, .nil => ⟨[], rfl, .nil⟩
  | _, _, .cons r t => by
    obtain ⟨k, h1, h2⟩ := PlV.nested r
    obtain ⟨ks, h3, h4⟩ := PlVs.nested t
    refine ⟨k :: ks, ?_, .cons h2 h4⟩
    rw [keyOf.keysOf, h1, h3]
end
mutual
theorem pure_key_inj : ∀ (d c : D) (k : NestedKey), pureD d = true → pureD c = true → keyOf d = some k → keyOf c = some k → d = c
  | .non, c, k, _, hc, h1, h2 => by
    cases (show some NestedKey.none = some k from h1)
    cases c with
    | non => rfl
    | int _ => cases (show some (NestedKey.num _) = some NestedKey.none from h2)
    | str _ => cases (show some (NestedKey.text _) = some NestedKey.none from h2)
    | tup cs =>
      have h3 : (keyOf.keysOf cs).map NestedKey.tup = some NestedKey.none := h2
      cases e : keyOf.keysOf cs <;> rw [e] at h3 <;> cases h3
    | _ => simp [pureD] at hc
  | .int i, c, k, _, hc, h1, h2 => by
    cases (show some (NestedKey.num i) = some k from h1)
    cases c with
    | non => cases (show some NestedKey.none = some (NestedKey.num i) from h2)
    | int _ => cases (show some (NestedKey.num _) = some (NestedKey.num i) from h2); rfl
    | str _ => cases (show some (NestedKey.text _) = some (NestedKey.num i) from h2)
    | tup cs =>
      have h3 : (keyOf.keysOf cs).map NestedKey.tup = some (NestedKey.num i) := h2
      cases e : keyOf.keysOf cs <;> rw [e] at h3 <;> cases h3
    | _ => simp [pureD] at hc
  | .str x, c, k, _, hc, h1, h2 => by
    cases (show some (NestedKey.text x) = some k from h1)
    cases c with
    | non => cases (show some NestedKey.none = some (NestedKey.text x) from h2)
    | int _ => cases (show some (NestedKey.num _) = some (NestedKey.text x) from h2)
    | str _ => cases (show some (NestedKey.text _) = some (NestedKey.text x) from h2); rfl
    | tup cs =>
      have h3 : (keyOf.keysOf cs).map NestedKey.tup = some (NestedKey.text x) := h2
      cases e : keyOf.keysOf cs <;> rw [e] at h3 <;> cases h3
    | _ => simp [pureD] at hc
  | .tup ds, c, k, hd, hc, h1, h2 => by
    have h3 : (keyOf.keysOf ds).map NestedKey.tup = some k := h1
    cases e : keyOf.keysOf ds with
    | none => rw [e] at h3; cases h3
    | some ks =>
      rw [e] at h3
      cases h3
      cases c with
      | non => cases (show some NestedKey.none = some (NestedKey.tup ks) from h2)
      | int _ => cases (show some (NestedKey.num _) = some (NestedKey.tup ks) from h2)
      | str _ => cases (show some (NestedKey.text _) = some (NestedKey.tup ks) from h2)
      | tup cs =>
        have h4 : (keyOf.keysOf cs).map NestedKey.tup = some (NestedKey.tup ks) := h2
        cases e2 : keyOf.keysOf cs with
        | none => rw [e2] at h4; cases h4
        | some ks2 =>
          rw [e2] at h4
          cases h4
          rw [pures_key_inj ds cs ks (by simpa [pureD] using hd) (by simpa [pureD] using hc) e e2]
      | _ => simp [pureD] at hc
  | .bl _, c, k, hd, _, _, _ => by simp [pureD] at hd
  | .fls _, c, k, hd, _, _, _ => by simp [pureD] at hd
  | .loc _, c, k, hd, _, _, _ => by simp [pureD] at hd
theorem pures_key_inj : ∀ (ds cs : List D) (ks : List NestedKey), puresD ds = true → puresD cs = true → keyOf.keysOf ds = some ks → keyOf.keysOf cs = some ks → ds = cs
  | [], cs, ks, _, _, h1, h2 => by
    cases (show some [] = some ks from h1)
    cases cs with
    | nil => rfl
    | cons c cs =>
      unfold keyOf.keysOf at h2
      cases e1 : keyOf c with
      | none => rw [e1] at h2; cases h2
      | some k => cases e2 : keyOf.keysOf cs <;> rw [e1, e2] at h2 <;> cases h2
  | d :: ds, cs, ks, hd, hc, h1, h2 => by
    unfold keyOf.keysOf at h1
    cases e1 : keyOf d with
    | none => rw [e1] at h1; cases h1
    | some k =>
      cases e2 : keyOf.keysOf ds with
      | none => rw [e1, e2] at h1; cases h1
      | some ks1 =>
        rw [e1, e2] at h1
        cases h1
        cases cs with
        | nil => cases (show some [] = some (k :: ks1) from h2)
        | cons c cs =>
          unfold keyOf.keysOf at h2
          cases e3 : keyOf c with
          | none => rw [e3] at h2; cases h2
          | some k' =>
            cases e4 : keyOf.keysOf cs with
            | none => rw [e3, e4] at h2; cases h2
            | some ks' =>
              rw [e3, e4] at h2
              cases h2
              simp only [puresD, Bool.and_eq_true] at hd hc
              rw [pure_key_inj d c k hd.1 hc.1 e1 e3, pures_key_inj ds cs ks1 hd.2 hc.2 e2 e4]
end
theorem beq_pure {d c : D} {k1 k2 : NestedKey} (hd : pureD d = true) (hc : pureD c = true) (h1 : keyOf d = some k1) (h2 : keyOf c = some k2) : NestedKey.beq k1 k2 = decide (d = c) := by
  cases e : NestedKey.beq k1 k2 with
  | true =>
    have := NestedKey.eq_of_beq k1 k2 e
    subst this
    exact (decide_eq_true (pure_key_inj d c k1 hd hc h1 h2)).symm
  | false =>
    refine (decide_eq_false fun z => ?_).symm
    subst z
    rw [h1] at h2
    cases h2
    rw [NestedKey.beq_self] at e
    cases e
mutual
/-- < is the order -/
theorem ltD_T : ∀ (d c : D) (b : Bool), pureD d = true → pureD c = true → ltD d c = some b → b = ltT d c
  | .int a, c, b, _, _, h => by
    cases c with
    | int a2 =>
      cases (show some (decide (a < a2)) = some b from h)
      rw [ltT, cmpT, Bool.eq_iff_iff]
      simp only [decide_eq_true_eq, beq_iff_eq]
      exact if3_lt.symm
    | _ => simp [ltD] at h
  | .str x, c, b, _, _, h => by
    cases c with
    | str y =>
      cases (show some (decide (x.cps.toList < y.cps.toList)) = some b from h)
      rw [ltT, cmpT, Bool.eq_iff_iff]
      simp only [decide_eq_true_eq, beq_iff_eq]
      exact if3_lt.symm
    | _ => simp [ltD] at h
  | .tup xs, c, b, hd, hc, h => by
    cases c with
    | tup ys =>
      rw [ltD] at h
      rw [ltT, cmpT]
      exact ltDs_T xs ys b (by simpa [pureD] using hd) (by simpa [pureD] using hc) h
    | _ => simp [ltD] at h
  | .non, c, b, _, _, h => by cases c <;> simp [ltD] at h
  | .bl _, c, b, _, _, h => by cases c <;> simp [ltD] at h
  | .fls _, c, b, _, _, h => by cases c <;> simp [ltD] at h
  | .loc _, c, b, _, _, h => by cases c <;> simp [ltD] at h
theorem ltDs_T : ∀ (ds cs : List D) (b : Bool), puresD ds = true → puresD cs = true → ltDs ds cs = some b → b = (cmpTs ds cs == .lt)
  | [], [], b, _, _, h => by cases (show some false = some b from h); rfl
  | [], _ :: _, b, _, _, h => by cases (show some true = some b from h); rfl
  | _ :: _, [], b, _, _, h => by cases (show some false = some b from h); rfl
  | d :: ds, c :: cs, b, hd, hc, h => by
    simp only [puresD, Bool.and_eq_true] at hd hc
    rw [ltDs] at h
    cases e1 : keyOf d with
    | none => simp [e1] at h
    | some k1 =>
      cases e2 : keyOf c with
      | none => simp [e1, e2] at h
      | some k2 =>
        simp only [e1, e2] at h
        rw [beq_pure hd.1 hc.1 e1 e2] at h
        by_cases q : d = c
        · rw [if_pos (decide_eq_true q)] at h
          rw [ltDs_T ds cs b hd.2 hc.2 h, cmpTs, (cmpT_eq d c hd.1 hc.1).mpr q]
        · rw [if_neg (by simp [q])] at h
          have h2 := ltD_T d c b hd.1 hc.1 h
          rw [h2, ltT, cmpTs]
          cases e : cmpT d c with
          | eq => exact absurd ((cmpT_eq d c hd.1 hc.1).mp e) q
          | lt => rfl
          | gt => rfl
end
theorem plV_eq {A : Around} {s : Shared} {d c : D} {u1 u2 : Value} {k : NestedKey} (h1 : PlV s.heap d u1) (h2 : PlV s.heap c u2) (hk : keyOf d = some k) (hu : A.units + k.depth < cLine) : SeqAt.EqAt A s u1 u2 (decide (d = c)) := by
  obtain ⟨k1, g1, n1⟩ := h1.nested
  obtain ⟨k2, g2, n2⟩ := h2.nested
  rw [hk] at g1
  cases g1
  have := eqAt_key k k2 A s u1 u2 n1 n2 (by omega)
  rwa [beq_pure h1.pure h2.pure hk g2] at this
mutual
theorem plV_lt {s : Shared} : ∀ (d c : D) (k : NestedKey) (A : Around) (u1 u2 : Value) (b : Bool), ltD d c = some b → keyOf d = some k → PlV s.heap d u1 → PlV s.heap c u2 → A.units + k.depth < cLine → SeqAt.RcLt A s u1 u2 b
  | .int a, c, k, A, u1, u2, b, e, hk, r1, r2, hu => by
    cases c with
    | int a2 =>
      cases (show some (decide (a < a2)) = some b from e)
      cases r1
      cases r2
      exact fun prog w E Q q => HT.rcLt_int A s a _ a2 _ prog w E Q q
    | _ => simp [ltD] at e
  | .str a, c, k, A, u1, u2, b, e, hk, r1, r2, hu => by
    cases c with
    | str a2 =>
      cases (show some (decide (a.cps.toList < a2.cps.toList)) = some b from e)
      cases r1
      cases r2
      exact fun prog w E Q q => DT.rcLt_str A s a _ a2 _ prog w E Q q
    | _ => simp [ltD] at e
  | .tup ds, c, k, A, u1, u2, b, e, hk, r1, r2, hu => by
    cases c with
    | tup cs =>
      rw [ltD] at e
      cases r1 with
      | tup i1 t1 =>
      cases r2 with
      | tup i2 t2 =>
      have e' : (keyOf.keysOf ds).map NestedKey.tup = some k := hk
      cases e2 : keyOf.keysOf ds with
      | none =>
        rw [e2] at e'
        cases e'
      | some ks =>
        rw [e2] at e'
        cases e'
        have hd : NestedKey.depth (.tup ks) = NestedKey.depthAll ks + 1 := by simp [NestedKey.depth]
        rw [hd] at hu
        exact rcLt_tups i1 i2 (by omega) (plVs_lt ds cs ks A.in1 _ _ b e e2 t1 t2 (by show A.units + 1 + _ < cLine; omega))
    | _ => simp [ltD] at e
  | .non, c, k, A, u1, u2, b, e, hk, r1, r2, hu => by cases c <;> simp [ltD] at e
  | .bl _, c, k, A, u1, u2, b, e, hk, r1, r2, hu => by cases c <;> simp [ltD] at e
  | .fls _, c, k, A, u1, u2, b, e, hk, r1, r2, hu => by cases hk
  | .loc _, c, k, A, u1, u2, b, e, hk, r1, r2, hu => by cases hk
theorem plVs_lt {s : Shared} : ∀ (ds cs : List D) (ks : List NestedKey) (A : Around) (us1 us2 : List Value) (b : Bool), ltDs ds cs = some b → keyOf.keysOf ds = some ks → PlVs s.heap ds us1 → PlVs s.heap cs us2 → A.units + NestedKey.depthAll ks < cLine → LtsAt A s us1 us2 b
  | [], [], ks, A, us1, us2, b, e, hk, r1, r2, hu => by
    cases r1
    cases r2
    cases (show some false = some b from e)
    exact .nil
  | [], c :: cs, ks, A, us1, us2, b, e, hk, r1, r2, hu => by
    cases r1
    cases r2
    cases (show some true = some b from e)
    exact .left
  | d :: ds, [], ks, A, us1, us2, b, e, hk, r1, r2, hu => by
    cases r1
    cases r2
    cases (show some false = some b from e)
    exact .right
  | d :: ds, c :: cs, ks, A, us1, us2, b, e, hk, r1, r2, hu => by
    cases r1 with
    | cons p1 t1 =>
    cases r2 with
    | cons p2 t2 =>
    rw [ltDs] at e
    unfold keyOf.keysOf at hk
    cases e1 : keyOf d with
    | none =>
      rw [e1] at hk
      cases hk
    | some k1 =>
      cases e2 : keyOf.keysOf ds with
      | none =>
        rw [e1, e2] at hk
        cases hk
      | some ks' =>
        rw [e1, e2] at hk
        cases hk
        simp only [NestedKey.depthAll] at hu
        cases e3 : keyOf c with
        | none => simp [e1, e3] at e
        | some k2 =>
          simp only [e1, e3] at e
          have eq := plV_eq (A := A) p1 p2 e1 (by omega)
          rw [beq_pure p1.pure p2.pure e1 e3] at e
          by_cases hb : d = c
          · rw [if_pos (decide_eq_true hb)] at e
            rw [decide_eq_true hb] at eq
            exact .same eq (plVs_lt ds cs ks' A _ _ b e e2 t1 t2 (by omega))
          · rw [if_neg (by simp [hb])] at e
            rw [decide_eq_false hb] at eq
            exact .less eq (plV_lt d c k1 A _ _ b e e1 p1 p2 (by omega))
end
end Dl

namespace Dl
open PySem L2 PyProof.Rows PySem.Spec

/-! ## what is sorted: how its items compare -/
def srtK (ds : List D) : Prop := (∀ d ∈ ds, ∃ i, d = .int i) ∨ (∀ d ∈ ds, ∃ x, d = .str x) ∨ (∀ d ∈ ds, ∃ i r, d = .tup (.int i :: r)) ∨ (∀ d ∈ ds, ∃ x r, d = .tup (.str x :: r)) ∨ (∀ d ∈ ds, ∃ q r, d = .tup (.tup q :: r))
structure Srt (ds : List D) : Prop where
  kind : srtK ds
  plain : ∀ d ∈ ds, plainD 90 d = true
  cmp : ∀ d ∈ ds, ∀ c ∈ ds, ∃ b, ltD d c = some b
section
variable {prog : Program} {w : World} {A : Around} {E : Value → Shared → Prop} {s : Shared}
theorem kat_lts {b fin r : Bool} : ∀ (ds cs : List D) (us ws : List Value) (ks : List NestedKey) (i lx ly : Nat), ltDs ds cs = some r → keyOf.keysOf ds = some ks → PlVs s.heap ds us → PlVs s.heap cs ws → A.units + NestedKey.depthAll ks < cLine →
    lx + ws.length = ly + us.length → fin = decide (lx < ly) → (b = true → i = 0 → (∃ x y dr cr, ds = .int x :: dr ∧ cs = .int y :: cr) ∨ ∃ x y dr cr, ds = .str x :: dr ∧ cs = .str y :: cr) →
    PySem.W.KatLex prog w A b fin (fun r' s' => s' = s ∧ r' = r) (us.zip ws) i s
  | [], cs, us, ws, ks, i, lx, ly, e, hk, r1, r2, hu, hl, hf, hb => by
    cases r1
    rw [List.zip_nil_left]
    refine PySem.W.kat_nil ⟨rfl, ?_⟩
    rw [hf]
    cases r2 with
    | nil =>
      cases (show some false = some r from e)
      simp only [List.length_nil] at hl
      exact decide_eq_false (by omega)
    | cons _ _ =>
      cases (show some true = some r from e)
      simp only [List.length_nil, List.length_cons] at hl
      exact decide_eq_true (by omega)
  | d :: ds, [], us, ws, ks, i, lx, ly, e, hk, r1, r2, hu, hl, hf, hb => by
    cases r2
    rw [List.zip_nil_right]
    refine PySem.W.kat_nil ⟨rfl, ?_⟩
    rw [hf]
    cases r1
    cases (show some false = some r from e)
    simp only [List.length_nil, List.length_cons] at hl
    exact decide_eq_false (by omega)
  | d :: ds, c :: cs, us, ws, ks, i, lx, ly, e, hk, r1, r2, hu, hl, hf, hb => by
    cases r1 with
    | @cons _ _ u us p1 t1 =>
    cases r2 with
    | @cons _ _ v ws p2 t2 =>
    rw [ltDs] at e
    unfold keyOf.keysOf at hk
    cases e1 : keyOf d with
    | none =>
      rw [e1] at hk
      cases hk
    | some k1 =>
      cases e2 : keyOf.keysOf ds with
      | none =>
        rw [e1, e2] at hk
        cases hk
      | some ks' =>
        rw [e1, e2] at hk
        cases hk
        simp only [NestedKey.depthAll] at hu
        cases e3 : keyOf c with
        | none => simp [e1, e3] at e
        | some k2 =>
          simp only [e1, e3] at e
          have eq := plV_eq (A := A) p1 p2 e1 (by omega)
          rw [beq_pure p1.pure p2.pure e1 e3] at e
          rw [List.zip_cons_cons]
          refine PySem.W.kat_cons (eq prog w _ _ ?_)
          by_cases q : d = c
          · rw [if_pos (decide_eq_true q)] at e
            rw [decide_eq_true q]
            simp only [List.length_cons] at hl
            exact PySem.W.kat_yes (kat_lts ds cs us ws ks' (i + 1) lx ly e e2 t1 t2 (by omega) (by omega) hf fun _ h => by omega)
          · rw [if_neg (by simp [q])] at e
            rw [decide_eq_false q]
            refine PySem.W.kat_no ?_
            have lt := plV_lt d c k1 A u v r e e1 p1 p2 (by omega)
            by_cases hbi : b = true ∧ i = 0
            · have hx : (b && i == 0) = true := by simp [hbi]
              rw [hx]
              rcases hb hbi.1 hbi.2 with ⟨x, y, dr, cr, h1, h2⟩ | ⟨x, y, dr, cr, h1, h2⟩
              · cases h1
                cases h2
                cases p1
                cases p2
                cases (show some (decide (x < y)) = some r from e)
                exact oneLt_int ⟨rfl, rfl⟩
              · cases h1
                cases h2
                cases p1
                cases p2
                cases (show some (decide (x.cps.toList < y.cps.toList)) = some r from e)
                exact oneLt_str ⟨rfl, rfl⟩
            · have hx : (b && i == 0) = false := by
                cases b with
                | false => rfl
                | true => simpa using fun h => hbi ⟨rfl, h⟩
              rw [hx]
              exact PySem.W.kat_one _ _ (lt prog w _ _ ⟨rfl, rfl⟩)
theorem ints_are : ∀ us : List Value, (∀ u ∈ us, ∃ i t, u = Value.int i t) → ∃ ns, IntsAre us ns
  | [], _ => ⟨[], .nil⟩
  | u :: us, h => by
    obtain ⟨ns, hn⟩ := ints_are us fun v hv => h v (List.mem_cons_of_mem _ hv)
    obtain ⟨i, t, rfl⟩ := h u List.mem_cons_self
    exact ⟨i :: ns, .cons i t hn⟩
theorem strs_are : ∀ us : List Value, (∀ u ∈ us, ∃ i t, u = Value.str i t) → ∃ ns, StrsAre us ns
  | [], _ => ⟨[], .nil⟩
  | u :: us, h => by
    obtain ⟨ns, hn⟩ := strs_are us fun v hv => h v (List.mem_cons_of_mem _ hv)
    obtain ⟨i, t, rfl⟩ := h u List.mem_cons_self
    exact ⟨i :: ns, .cons i t hn⟩
theorem tups_are {rd : Value → D} {P : D → Prop} : ∀ us : List Value, (∀ u ∈ us, PlV s.heap (rd u) u ∧ ∃ f r, rd u = .tup (f :: r) ∧ P f) → ∃ fs, PySem.W.KatTups s.heap us fs ∧ fs.length = us.length ∧ ∀ v ∈ fs, ∃ f, P f ∧ PlV s.heap f v
  | [], _ => ⟨[], PySem.W.KatTups.nil, rfl, by simp⟩
  | u :: us, h => by
    obtain ⟨fs, h1, h2, h3⟩ := tups_are us fun v hv => h v (List.mem_cons_of_mem _ hv)
    obtain ⟨hp, f, r, e, hf⟩ := h u List.mem_cons_self
    rw [e] at hp
    cases hp with
    | @tup _ a items i t =>
    obtain ⟨o, g1, g2, n, g3⟩ := i
    cases hi : items.toList with
    | nil => rw [hi] at t; cases t
    | cons v vs =>
      rw [hi] at t
      cases t with
      | cons t1 t2 =>
      have h0 : items[0]? = some v := by rw [← Array.getElem?_toList, hi]; rfl
      refine ⟨v :: fs, PySem.W.KatTups.cons g1 g2 g3 h0 h1, by simp [h2], fun x hx => ?_⟩
      rcases List.mem_cons.mp hx with rfl | hx
      · exact ⟨f, hf, t1⟩
      · exact h3 x hx
theorem srt_cmp {rd : Value → D} {us : List Value} (S : Srt (us.map rd)) (h : ∀ u ∈ us, PlV s.heap (rd u) u) (hu : A.units + 100 < cLine) (h2 : 2 ≤ us.length) :
    ∃ κ, (∀ (Q : SortKind → Shared → Prop) (E : Value → Shared → Prop), Q κ s → wpAny (model prog w) A (keyKind' us.toArray) Q E s) ∧ SrtO.Cmp prog w A s κ (fun p => p.1 ∈ us) (fun p q => ltT (rd p.1) (rd q.1)) := by
  have mem : ∀ u ∈ us, rd u ∈ us.map rd := fun u hm => List.mem_map_of_mem hm
  have lt : ∀ u ∈ us, ∀ v ∈ us, ltD (rd u) (rd v) = some (ltT (rd u) (rd v)) := fun u hm v hv => by
    obtain ⟨b, hb⟩ := S.cmp _ (mem u hm) _ (mem v hv)
    rw [hb, ltD_T _ _ b (h u hm).pure (h v hv).pure hb]
  have tups : ∀ (b : Bool), (∀ u ∈ us, ∃ f r, rd u = .tup (f :: r)) → (b = true → ∀ u ∈ us, ∀ v ∈ us, (∃ x y dr cr, rd u = .tup (.int x :: dr) ∧ rd v = .tup (.int y :: cr)) ∨ ∃ x y dr cr, rd u = .tup (.str x :: dr) ∧ rd v = .tup (.str y :: cr)) →
      SrtO.Cmp prog w A s (tuples' b) (fun p => p.1 ∈ us) (fun p q => ltT (rd p.1) (rd q.1)) := by
    intro b ht hb p q hm hm'
    have e := lt _ hm _ hm'
    have hp := S.plain _ (mem _ hm)
    have v1 := h _ hm
    have v2 := h _ hm'
    have hbb := fun hx => hb hx _ hm _ hm'
    obtain ⟨f, r, e1⟩ := ht _ hm
    obtain ⟨f', r', e2⟩ := ht _ hm'
    show wpAny (model prog w) A (keyLt' (tuples' b) p.1 q.1) (fun r s' => s' = s ∧ r = ltT (rd p.1) (rd q.1)) (fun _ _ => False) s
    generalize ltT (rd p.1) (rd q.1) = res at e ⊢
    rw [e1] at v1 e hp
    rw [e2] at v2 e
    generalize hp1 : p.1 = u1 at v1
    generalize hq1 : q.1 = u2 at v2
    cases v1 with
    | @tup _ a items i t =>
    cases v2 with
    | @tup _ a2 items2 i2 t2 =>
    obtain ⟨o, g1, g2, n, g3⟩ := i
    obtain ⟨o', g4, g5, n', g6⟩ := i2
    refine PySem.W.kat_lt g1 g3 g4 g6 ?_
    rw [ltD] at e
    obtain ⟨k, hk, hd⟩ := key_plain 90 _ hp
    have hk' : (keyOf.keysOf (f :: r)).map NestedKey.tup = some k := hk
    cases ek : keyOf.keysOf (f :: r) with
    | none => rw [ek] at hk'; cases hk'
    | some ks =>
      rw [ek] at hk'
      cases hk'
      have hdd : NestedKey.depth (.tup ks) = NestedKey.depthAll ks + 1 := by simp [NestedKey.depth]
      refine kat_lts (f :: r) (f' :: r') _ _ ks 0 items.size items2.size e ek t t2 (by omega) (by simp; omega) rfl fun hb1 _ => ?_
      rcases hbb hb1 with ⟨x, y, dr, cr, z1, z2⟩ | ⟨x, y, dr, cr, z1, z2⟩
      · rw [e1] at z1
        rw [e2] at z2
        cases z1
        cases z2
        exact .inl ⟨x, y, _, _, rfl, rfl⟩
      · rw [e1] at z1
        rw [e2] at z2
        cases z1
        cases z2
        exact .inr ⟨x, y, _, _, rfl, rfl⟩
  rcases S.kind with hk | hk | hk | hk | hk
  · have hi : ∀ u ∈ us, ∃ i t, u = Value.int i t := fun u hm => by
      obtain ⟨i, e⟩ := hk _ (mem u hm)
      have := h u hm
      rw [e] at this
      cases this
      exact ⟨_, _, rfl⟩
    obtain ⟨ns, hI⟩ := ints_are us hi
    refine ⟨oneType', fun Q E hq => ?_, fun p q hm hm' => ?_⟩
    · match us, hI, h2 with
      | v1 :: v2 :: rest, hI, _ =>
        rw [keyKind_ints hI]
        exact wpAny_pure hq
    · have e := lt _ hm _ hm'
      have v1 := h _ hm
      have v2 := h _ hm'
      obtain ⟨i, e1⟩ := hk _ (mem _ hm)
      obtain ⟨j, e2⟩ := hk _ (mem _ hm')
      show wpAny (model prog w) A (keyLt' oneType' p.1 q.1) (fun r s' => s' = s ∧ r = ltT (rd p.1) (rd q.1)) (fun _ _ => False) s
      generalize ltT (rd p.1) (rd q.1) = res at e ⊢
      rw [e1] at v1 e
      rw [e2] at v2 e
      cases (show some (decide (i < j)) = some res from e)
      generalize p.1 = u1 at v1 ⊢
      generalize q.1 = u2 at v2 ⊢
      cases v1
      cases v2
      rw [keyLt'_oneType]
      exact oneLt_int ⟨rfl, rfl⟩
  · have hi : ∀ u ∈ us, ∃ i t, u = Value.str i t := fun u hm => by
      obtain ⟨i, e⟩ := hk _ (mem u hm)
      have := h u hm
      rw [e] at this
      cases this
      exact ⟨_, _, rfl⟩
    obtain ⟨ns, hI⟩ := strs_are us hi
    refine ⟨oneType', fun Q E hq => ?_, fun p q hm hm' => ?_⟩
    · match us, hI, h2 with
      | v1 :: v2 :: rest, hI, _ =>
        rw [keyKind_strs hI]
        exact wpAny_pure hq
    · have e := lt _ hm _ hm'
      have v1 := h _ hm
      have v2 := h _ hm'
      obtain ⟨i, e1⟩ := hk _ (mem _ hm)
      obtain ⟨j, e2⟩ := hk _ (mem _ hm')
      show wpAny (model prog w) A (keyLt' oneType' p.1 q.1) (fun r s' => s' = s ∧ r = ltT (rd p.1) (rd q.1)) (fun _ _ => False) s
      generalize ltT (rd p.1) (rd q.1) = res at e ⊢
      rw [e1] at v1 e
      rw [e2] at v2 e
      cases (show some (decide (i.cps.toList < j.cps.toList)) = some res from e)
      generalize p.1 = u1 at v1 ⊢
      generalize q.1 = u2 at v2 ⊢
      cases v1
      cases v2
      rw [keyLt'_oneType]
      exact oneLt_str ⟨rfl, rfl⟩
  · obtain ⟨fs, h3, h4, h5⟩ := tups_are (P := fun f => ∃ i, f = .int i) us fun u hm => ⟨h u hm, by obtain ⟨i, r, e⟩ := hk _ (mem u hm); exact ⟨_, r, e, i, rfl⟩⟩
    refine ⟨tuples' true, fun Q E hq => ?_, tups true (fun u hm => by obtain ⟨i, r, e⟩ := hk _ (mem u hm); exact ⟨_, r, e⟩) fun _ u hm v hv => ?_⟩
    · refine PySem.W.kat_kind (T := .type "int") h3 (by omega) (fun f hm => ?_) (by rfl) ?_
      · obtain ⟨d, ⟨i, rfl⟩, hv⟩ := h5 f hm
        cases hv
        exact PySem.W.Looks.now
      · have e : (Value.type "int" != Value.type "tuple") = true := by first | decide +kernel | rfl | decide
        rw [e]
        exact hq
    · obtain ⟨i, r, e⟩ := hk _ (mem u hm)
      obtain ⟨j, r2, e2⟩ := hk _ (mem v hv)
      exact .inl ⟨_, _, _, _, e, e2⟩
  · obtain ⟨fs, h3, h4, h5⟩ := tups_are (P := fun f => ∃ i, f = .str i) us fun u hm => ⟨h u hm, by obtain ⟨i, r, e⟩ := hk _ (mem u hm); exact ⟨_, r, e, i, rfl⟩⟩
    refine ⟨tuples' true, fun Q E hq => ?_, tups true (fun u hm => by obtain ⟨i, r, e⟩ := hk _ (mem u hm); exact ⟨_, r, e⟩) fun _ u hm v hv => ?_⟩
    · refine PySem.W.kat_kind (T := .type "str") h3 (by omega) (fun f hm => ?_) (by rfl) ?_
      · obtain ⟨d, ⟨i, rfl⟩, hv⟩ := h5 f hm
        cases hv
        exact PySem.W.Looks.now
      · have e : (Value.type "str" != Value.type "tuple") = true := by first | decide +kernel | rfl | decide
        rw [e]
        exact hq
    · obtain ⟨i, r, e⟩ := hk _ (mem u hm)
      obtain ⟨j, r2, e2⟩ := hk _ (mem v hv)
      exact .inr ⟨_, _, _, _, e, e2⟩
  · obtain ⟨fs, h3, h4, h5⟩ := tups_are (P := fun f => ∃ q, f = .tup q) us fun u hm => ⟨h u hm, by obtain ⟨i, r, e⟩ := hk _ (mem u hm); exact ⟨_, r, e, i, rfl⟩⟩
    refine ⟨tuples' false, fun Q E hq => ?_, tups false (fun u hm => by obtain ⟨i, r, e⟩ := hk _ (mem u hm); exact ⟨_, r, e⟩) fun hx => by cases hx⟩
    refine PySem.W.kat_kind (T := .type "tuple") h3 (by omega) (fun f hm => ?_) (by rfl) ?_
    · obtain ⟨d, ⟨i, rfl⟩, hv⟩ := h5 f hm
      cases hv with
      | tup i t =>
      obtain ⟨o, g1, g2, n, g3⟩ := i
      rw [← g2]
      exact (PySem.W.Looks.ld g1).andThen .now
    · have e : (Value.type "tuple" != Value.type "tuple") = false := by first | decide +kernel | rfl | decide
      rw [e]
      exact hq
end
end Dl

namespace Dl
open PySem L2 PyProof.Rows PySem.Spec

/-! ## sorted(x): a list, a tuple, a dict's keys -/
/-- how a value reads -/
noncomputable def rdV (h : Heap) (u : Value) : D := by
  classical
  exact if q : ∃ d, PlV h d u then q.choose else .non
theorem rdV_eq {h : Heap} {d : D} {u : Value} (x : PlV h d u) : rdV h u = d := by
  have q : ∃ d, PlV h d u := ⟨d, x⟩
  unfold rdV
  rw [dif_pos q]
  exact q.choose_spec.inj x
theorem rdV_pure (h : Heap) (u : Value) : pureD (rdV h u) = true := by
  unfold rdV
  split
  · rename_i q
    exact q.choose_spec.pure
  · rfl
theorem rdV_all {h : Heap} : ∀ {ds : List D} {us : List Value}, PlVs h ds us → us.map (rdV h) = ds ∧ ∀ u ∈ us, PlV h (rdV h u) u
  | _, _, .nil => ⟨rfl, by simp⟩
  | _, _, .cons r t => by
    obtain ⟨h1, h2⟩ := rdV_all t
    refine ⟨by rw [List.map_cons, h1, rdV_eq r], fun u hu => ?_⟩
    rcases List.mem_cons.mp hu with rfl | hu
    · rw [rdV_eq r]; exact r
    · exact h2 u hu
/-- an order kept aside -/
theorem perm_vals {K : PySem.W.Frag} {ρ : List Addr} {H : Hp} {rd : Value → D} {us out : List Value} (p : out.Perm us) : ∀ (vs : List V), VRs K ρ H (us.map rd) vs → Vals vs us → ∃ vs', VRs K ρ H (out.map rd) vs' ∧ Vals vs' out := by
  induction p with
  | nil => exact fun vs h1 h2 => ⟨vs, h1, h2⟩
  | cons x _ ih =>
    intro vs h1 h2
    rw [List.map_cons] at h1
    unfold VRs at h1
    obtain ⟨v, vr, rfl, g1, g2⟩ := h1
    cases h2 with
    | cons r1 r2 =>
    obtain ⟨vs', k1, k2⟩ := ih vr g2 r2
    exact ⟨v :: vs', .cons g1 k1, .cons r1 k2⟩
  | swap x y l =>
    intro vs h1 h2
    rw [List.map_cons, List.map_cons] at h1
    unfold VRs at h1
    obtain ⟨v, vr, rfl, g1, g2⟩ := h1
    unfold VRs at g2
    obtain ⟨v2, vr2, rfl, g3, g4⟩ := g2
    cases h2 with
    | cons r1 r2 =>
    cases r2 with
    | cons r2 r3 => exact ⟨v2 :: v :: vr2, .cons g3 (.cons g1 g4), .cons r2 (.cons r1 r3)⟩
  | trans _ _ ih1 ih2 =>
    intro vs h1 h2
    obtain ⟨vs', k1, k2⟩ := ih2 vs h1 h2
    exact ih1 vs' k1 k2
/-- what sorted takes -/
def srcD (S : Sto) (d : D) : Option (List D) := match seqD S d with
  | some xs => some xs
  | none => match d with
    | .loc l => match S[l]? with
      | some (.dct _ kvs) => some (kvs.map (·.1))
      | _ => none
    | _ => none
theorem srcD_seq {S : Sto} {d : D} {xs : List D} (h : seqD S d = some xs) : srcD S d = some xs := by simp [srcD, h]
theorem srcD_loc {S : Sto} {l : Nat} {xs : List D} (h : S[l]? = some (.lst xs)) : srcD S (.loc l) = some xs := srcD_seq (seqD_loc h)
theorem srcD_dct {S : Sto} {l ep : Nat} {kvs : List (D × D)} (h : S[l]? = some (.dct ep kvs)) : srcD S (.loc l) = some (kvs.map (·.1)) := by simp [srcD, seqD, h]
@[simp] theorem srcD_tup {S : Sto} {xs : List D} : srcD S (.tup xs) = some xs := rfl
@[simp] theorem srcD_fls {S : Sto} {xs : List D} : srcD S (.fls xs) = some xs := rfl
section
variable {X : Cx} {pins : List (Addr × Obj)} {σ : L2.St} {H : Hp} {s : Shared} {ρ : List Addr} {S : Sto}
theorem col_ok {A : Around} {E : Value → Shared → Prop} {d : D} {v : V} {u : Value} {ds : List D} {Q : List Value → Shared → Prop} (hh : A.handled = none) (I : L2.Inv X pins σ H s) (W : XW X ρ S H) (r : VR X.K ρ H d v) (ru : RelV v u) (e : srcD S d = some ds)
    (q : ∀ h' tk us vs, (∀ b o, s.heap.get? b = some o → h'.get? b = some o) → VRs X.K ρ H ds vs → Vals vs us → us.length ≤ sizeLine → Q us { s with heap := h', toks := tk }) : wpAny (model X.prog X.w) A (collect u) Q E s := by
  unfold srcD at e
  cases hs : seqD S d with
  | some xs =>
    rw [hs] at e
    cases e
    obtain ⟨a, vs, rfl, h1, h2⟩ := seqD_ok W r hs
    cases (show u = Value.ref a from ru)
    rcases h1 with h1 | h1
    · obtain ⟨its, rv, ⟨o, n, ho, hc, _, hd⟩, hz⟩ := I.list h1
      exact wpAny_collect_seq a (.inl rfl) ho hc hd (fun h' hk => q h' _ _ vs hk h2 (by simpa using rv) (by rw [← rv.length] at *; simpa using hz)) (by simpa [rv.length] using hz)
    · obtain ⟨its, rv, ⟨o, ho, hc, n, hd⟩, hz⟩ := I.tuple h1
      exact wpAny_collect_seq a (.inr rfl) ho hc hd (fun h' hk => q h' _ _ vs hk h2 (by simpa using rv) (by simpa [rv.length] using hz)) (by simpa [rv.length] using hz)
  | none =>
    rw [hs] at e
    cases d with
    | loc l =>
      cases hl : S[l]? with
      | none => simp [hl] at e
      | some o =>
        cases o with
        | lst _ => simp [hl] at e
        | ins _ _ => simp [hl] at e
        | dct ep kvs =>
          simp only [hl] at e
          cases e
          obtain ⟨a, h3, rfl⟩ := r.loc_of
          cases (show u = Value.ref a from ru)
          obtain ⟨es, ks, T⟩ := dat_of I (W.obj l a _ h3 hl)
          have hsz : es.size ≤ sizeLine := by rw [T.size]; exact T.le
          obtain ⟨⟨vs, a1, a2⟩, _⟩ := ent_two (X := X) T.pr
          refine PySem.W.kdu_collect (KdlSrc.rawDict T.sys) hh T.rw.ob hsz fun h' tk acc hkeep hacc => ?_
          have hlen : vs.length = kvs.length := by have := a1.length; simpa using this
          have hv : Vals vs acc.toList := vals_at (by rw [hlen, ← T.size, ← hacc.1]; simp) fun j u e => by
            obtain ⟨hi, e2⟩ := hacc.2 j u (by rw [← Array.getElem?_toList]; exact e)
            refine vals_ix a2 (j := j) ?_
            rw [List.getElem?_map, Array.getElem?_toList, Array.getElem?_eq_getElem hi, e2]
            rfl
          exact q h' tk _ vs hkeep a1 hv (by rw [← hv.length, hlen]; exact T.le)
    | _ => cases e
def dSortD : DCall := fun ds S R => ∃ d xs, ds = [d] ∧ srcD S d = some xs ∧ Srt xs ∧ ∀ ys, ys.Perm xs → ys.Pairwise (fun a b => ltT b a = false) → R (.loc S.length) (S ++ [.lst ys])
theorem isTuple_keep {h h' : Heap} {a : Addr} {vs : List Value} {n : Nat} (ha : h.get? a = some (seqObj "list" vs.toArray n)) (k : ∀ b o, b ≠ a → h.get? b = some o → h'.get? b = some o) : ∀ b us, h.IsTuple b us → h'.IsTuple b us := by
  intro b us ⟨o, h1, h2, n2, h3⟩
  refine ⟨o, k b o (fun e => ?_) h1, h2, n2, h3⟩
  subst e
  rw [ha] at h1
  have h1' := Option.some.inj h1
  rw [← h1'] at h2
  have h2' : Value.type "list" = Value.type "tuple" := h2
  injection h2' with z
  exact absurd z (by decide)
theorem cd_sortD (hc : X.calm = true) (hu : X.A.units + 150 < cLine) : CallR X (.builtin "sorted") (rCD X dSortD) := by
  intro pins s σ H xs us Q I rs ⟨ρ, S, ds, R, W, r, ⟨d, xs', e1, e2, hS, q⟩, p⟩
  subst e1
  obtain ⟨v, rfl, rv⟩ := r.one_of
  obtain ⟨u, rfl, ru⟩ := vals1 rs
  refine Calls.call_function_entry kind_sorted plain_sorted entry_sorted (args_sorted1 _) ?_
  unfold Builtin.«sorted»
  refine wpAny_bind (m := checkCount "sorted" 1 1 _) (wpAny_pure ?_)
  refine wpAny_bind (col_ok (A := X.A.in1) (I.ok.hd hc) I W rv ru e2 fun h1 tk ws vs hk r1 r2 hz => ?_)
  have I1 : L2.Inv X pins σ H { s with heap := h1, toks := tk } := I.kept hk
  refine wpAny_bind (wpAny_newList ?_ hz)
  have hoL : (h1.push (seqObj "list" ws.toArray 0)).get? h1.objs.size = some (seqObj "list" ws.toArray 0) := Heap.get?_push_size _ rfl
  show wpAny _ _ _ _ _ { s with heap := h1.push (seqObj "list" ws.toArray 0), toks := tk }
  have I2 : L2.Inv X pins σ H { s with heap := h1.push (seqObj "list" ws.toArray 0), toks := tk } := I1.kept fun b o e => Heap.get?_push_of_some _ e
  have pl := plVs_of I2 90 xs' vs ws (plains_of hS.plain) r1 r2
  obtain ⟨m1, m2⟩ := rdV_all pl
  refine wpAny_bind (wpAny_holding (wpAny_call_entry slot_list_sort ⟨_, hoL, rfl⟩ entry_list_sort (SrtO.list_sort_ord (s := { s with heap := h1.push (seqObj "list" ws.toArray 0), toks := tk }) (swo_D (rdV_pure (h1.push (seqObj "list" ws.toArray 0)))) hoL hz (fun h2 h' keep => ?_) fun out hs hb => ⟨_, rfl, ?_⟩) (args_list_sort _)))
  · have kt := isTuple_keep hoL keep
    exact srt_cmp (s := { s with heap := h', toks := tk }) (by rw [m1]; exact hS) (fun u hm => (m2 u hm).keep kt) (by show X.A.units + 1 + 1 + 100 < cLine; omega) h2
  · obtain ⟨vs', k1, k2⟩ := perm_vals hb.perm vs (by rw [m1]; exact r1) r2
    obtain ⟨e', he'⟩ := sortedHeap_at (vs := ws) (out := out.toArray) hoL
    have hlen : vs'.length ≤ sizeLine := by rw [k2.length, hb.perm.length_eq]; exact hz
    have hn := I1.hok.fresh (Nat.le_refl h1.objs.size)
    refine wpAny_pure ⟨_, rfl, .ref h1.objs.size, upd H h1.objs.size (.lst vs'), I1.laid (t' := tk) (fun b u e => ?_) (Nat.le_refl _) ⟨hlen, out, e', k2, he'⟩, rfl, new_lst W k1 (q (out.map (rdV (h1.push (seqObj "list" ws.toArray 0)))) ?_ ?_) p hn⟩
    · have hb : b < h1.objs.size := Heap.lt_size e
      rw [sortedHeap_old (Nat.ne_of_lt hb) (by rw [size_push']; exact Nat.lt_succ_of_lt hb)]
      exact Heap.get?_push_of_some _ e
    · rw [← m1]
      exact hb.perm.map _
    · exact List.pairwise_map.mpr (hs.imp fun h => h)
end
end Dl

namespace Dl
open PySem L2 PyProof.Rows PySem.Spec

/-! ## sorted(x, key=f), f a def of the text -/
def LstObj (a : Addr) (xs : Array Value) (e : Nat) (h : Heap) : Prop := h.get? a = some (seqObj "list" xs e)
theorem lst_ok {P : Program} {w : World} {H : Hp} {h : Heap} {a : Addr} {xs : Array Value} {e : Nat} (x : LstObj a xs e h) : ObjOk P w H h a (.ext (LstObj a xs e)) := ⟨x, ⟨_, x⟩, fun h1 h2 y k => k _ y⟩
/-- the keys, one by one -/
def keyGo (sp : DSp) (fin : List D → Sto → Prop) : List D → List D → Sto → Prop
  | [], acc, S => fin acc S
  | d :: r, acc, S => sp [d] S fun k S1 => keyGo sp fin r (acc ++ [k]) S1
/-- what stands behind: the items by their keys -/
def keyFin (xs : List D) (R : DQ) (ks : List D) (S : Sto) : Prop := Srt ks ∧ ks.length = xs.length ∧ ∀ ps : List (D × D), ps.Perm (ks.zip xs) → ps.Pairwise (fun p q => ltT q.1 p.1 = false) → R (.loc S.length) (S ++ [.lst (ps.map (·.2))])
def wSortK (sp : DSp) (wr : WA) : WE := fun τ S R => wr τ S fun ds S1 => ∃ d xs, ds = [d] ∧ srcD S1 d = some xs ∧ keyGo sp (keyFin xs R) xs [] S1
section
variable {X : Cx} {pins : List (Addr × Obj)} {σ : L2.St}
theorem run_fnG_in {A : Around} {E : XK} {k : Nat} {f : Addr} {fd : FuncData} {ps : List Str} {sp : Sp} {H : Hp} {s : Shared} {Q : VK} {us : List Value} {vs : List V} (hA : A.frames = X.A.frames) (F : FnG X.prog X.w X.K X.mg X.base CX0 k f fd ps sp) (hr : RoomG k A) (hb : Binds X.K fd ps [])
    (I : L2.Inv X pins σ H s) (r : Vals vs us) (h : sp vs H Q E) {E' : Value → Shared → Prop} : wpAny (model X.prog X.w) A (call (.ref f) us) (EP X pins σ Q) E' s := by
  have hl : us.length = ps.length := by rw [← r.length]; exact F.len _ _ _ _ h
  have hb' := hb s us I.kIn (by rw [List.append_nil]; exact hl)
  rw [List.append_nil] at hb'
  have e0 : Env0 X.prog X.w X.K X.mg X.base A X.stack s H := { I.env0 with frames := by rw [hA]; exact I.env0.frames }
  refine wpAny_call (codeAny_mono (F.run A X.stack s H ⟨us, []⟩ us vs Q E hr e0 hb' r h) fun r s' hq => ?_)
  cases r with
  | error e => exact False.elim hq
  | ok fl =>
    cases fl with
    | ret u => exact I.after hq
    | next => exact False.elim hq
    | brk => exact False.elim hq
    | cont => exact False.elim hq
theorem mem_zip_fst {ks vs : List Value} : ∀ {p : Keyed}, p ∈ ks.zip vs → p.1 ∈ ks := fun h => (List.of_mem_zip h).1
theorem map_zip_snd {α β : Type} : ∀ {as : List α} {bs : List β}, as.length = bs.length → (as.zip bs).map (·.2) = bs
  | [], [], _ => rfl
  | _ :: as, _ :: bs, h => by
    rw [List.zip_cons_cons, List.map_cons, map_zip_snd (by simpa using h)]
  | [], _ :: _, h => by simp at h
  | _ :: _, [], h => by simp at h
theorem zip_fst_snd {α β : Type} : ∀ ps : List (α × β), (ps.map (·.1)).zip (ps.map (·.2)) = ps
  | [] => rfl
  | p :: ps => by rw [List.map_cons, List.map_cons, List.zip_cons_cons, zip_fst_snd ps]
theorem vals_snoc {vs : List V} {us : List Value} {v : V} {u : Value} (h : Vals vs us) (r : RelV v u) : Vals (vs ++ [v]) (us ++ [u]) := by
  induction h with
  | nil => exact .cons r .nil
  | cons a _ ih => exact .cons a ih
theorem perm_vals2 {K : PySem.W.Frag} {ρ : List Addr} {H : Hp} {rd : Value → D} {arr out : List Keyed} (p : out.Perm arr) : ∀ (xs : List D) (vs : List V), VRs K ρ H xs vs → Vals vs (arr.map (·.2)) →
    ∃ ps : List (D × D), ps.Perm ((arr.map fun q => rd q.1).zip xs) ∧ ps.map (·.1) = out.map (fun q => rd q.1) ∧ ∃ vs', VRs K ρ H (ps.map (·.2)) vs' ∧ Vals vs' (out.map (·.2)) := by
  induction p with
  | nil =>
    intro xs vs h1 h2
    cases h2
    have : xs = [] := h1.of_nil
    subst this
    exact ⟨[], List.Perm.refl _, rfl, [], .nil, .nil⟩
  | cons x _ ih =>
    intro xs vs h1 h2
    rw [List.map_cons] at h2
    cases h2 with
    | @cons v _ vr _ r1 r2 =>
    cases xs with
    | nil => unfold VRs at h1; cases h1
    | cons d xs =>
      unfold VRs at h1
      obtain ⟨v', vr', e, g1, g2⟩ := h1
      cases e
      obtain ⟨ps, k1, k2, vs', k3, k4⟩ := ih xs vr g2 r2
      refine ⟨(rd x.1, d) :: ps, ?_, by rw [List.map_cons, List.map_cons, k2], v :: vs', .cons g1 k3, ?_⟩
      · rw [List.map_cons, List.zip_cons_cons]
        exact k1.cons _
      · rw [List.map_cons]
        exact .cons r1 k4
  | swap x y l =>
    intro xs vs h1 h2
    rw [List.map_cons, List.map_cons] at h2
    cases h2 with
    | @cons v _ vr _ r1 r2 =>
    cases r2 with
    | @cons v2 _ vr2 _ r2 r3 =>
    cases xs with
    | nil => unfold VRs at h1; cases h1
    | cons d xs =>
      unfold VRs at h1
      obtain ⟨v', vr', e, g1, g2⟩ := h1
      cases e
      cases xs with
      | nil => unfold VRs at g2; cases g2
      | cons d2 xs =>
        unfold VRs at g2
        obtain ⟨v', vr', e, g3, g4⟩ := g2
        cases e
        have hl : xs.length = l.length := by
          have a1 := g4.length
          have a2 := r3.length
          simp at a2
          omega
        refine ⟨(rd y.1, d2) :: (rd x.1, d) :: (l.map fun q => rd q.1).zip xs, ?_, ?_, v2 :: v :: vr2, ?_, ?_⟩
        · rw [List.map_cons, List.map_cons, List.zip_cons_cons, List.zip_cons_cons]
          exact List.Perm.swap _ _ _
        · rw [List.map_cons, List.map_cons, List.map_cons, List.map_cons, List.map_fst_zip (by simp [hl])]
        · rw [List.map_cons, List.map_cons, List.map_snd_zip (by simp [hl])]
          exact .cons g3 (.cons g1 g4)
        · rw [List.map_cons, List.map_cons]
          exact .cons r2 (.cons r1 r3)
  | trans p1 p2 ih1 ih2 =>
    intro xs vs h1 h2
    obtain ⟨ps, k1, k2, vs', k3, k4⟩ := ih2 xs vs h1 h2
    obtain ⟨ps2, m1, m2, vs2, m3, m4⟩ := ih1 _ vs' k3 k4
    rw [← k2, zip_fst_snd] at m1
    exact ⟨ps2, m1.trans k1, m2, vs2, m3, m4⟩
/-- the state while the keys are made -/
structure KeyI (X : Cx) (pins : List (Addr × Obj)) (σ : L2.St) (ρ : List Addr) (H : Hp) (a kS e1 : Nat) (P : List D → Sto → Prop) (n : Nat) (s' : Shared) : Prop where
  ex : ∃ ρ' S' H' kA e acc kvs, L2.Inv X pins σ H' s' ∧ Ext ρ H ρ' H' ∧ XW X ρ' S' H' ∧ H' a = some (.ext (LstObj a #[] e1)) ∧ H' kS = some (.ext (LstObj kS kA e)) ∧ a ∉ ρ' ∧ kS ∉ ρ' ∧ VRs X.K ρ' H' acc kvs ∧ Vals kvs kA.toList ∧ acc.length = n ∧ P acc S'
section
variable {X : Cx} {pins : List (Addr × Obj)} {σ : L2.St} {ρ : List Addr} {S : Sto} {H : Hp} {s : Shared} {a kS e1 : Nat}
theorem notin_ext {ρ ρ' : List Addr} {H H' : Hp} (x : Ext ρ H ρ' H') {b : Addr} (h : b ∉ ρ) (g : ∃ o, H b = some o) : b ∉ ρ' := by
  obtain ⟨more, rfl, h2⟩ := x.pre
  intro hb
  rcases List.mem_append.mp hb with hb | hb
  · exact h hb
  · obtain ⟨o, ho⟩ := g
    rw [h2 b hb] at ho
    cases ho
/-- what stands aside is rewritten -/
theorem ext_aside {ρ ρ' : List Addr} {H H' : Hp} {b : Addr} {u : HO} (x : Ext ρ H ρ' H') (h : H b = none) : Ext ρ H ρ' (upd H' b u) :=
  ⟨x.pre, fun c o hc hn => by
    have ne : c ≠ b := fun e => by rw [e, h] at hc; cases hc
    rw [upd_ne ne]
    exact x.keep c o hc hn⟩
theorem key_loop {A : Around} {E : Value → Shared → Prop} {k : Nat} {f : Addr} {fd : FuncData} {ps : List Str} {sp : DSp} {fin : List D → Sto → Prop} {xs : List D} {vs : List V} {ws : List Value} {Q : PUnit → Shared → Prop}
    (hA : A.frames = X.A.frames) (F : FnG X.prog X.w X.K X.mg X.base CX0 k f fd ps (spD X.w X.K X.mg sp)) (hr : RoomG k A) (hb : Binds X.K fd ps []) (Se : Sep ρ H) (r1 : VRs X.K ρ H xs vs) (r2 : Vals vs ws) (hz : ws.length ≤ sizeLine) (ha : H a = none) (hk : H kS = none) (hak : kS ≠ a)
    (J : KeyI X pins σ ρ H a kS e1 (fun acc S' => keyGo sp fin (xs.drop 0) acc S') 0 s) (q : ∀ s', KeyI X pins σ ρ H a kS e1 fin xs.length s' → Q ⟨⟩ s') :
    wpAny (model X.prog X.w) A (forIn ws PUnit.unit fun x _ => do
      match ← (call (.ref f) [x]).attempt with
      | .ok k => Builtin.List.listUpdate (.ref kS) (·.push k); pure (ForInStep.yield PUnit.unit)
      | .error e =>
        rule "list.sort.key-raised"
        let made ← Builtin.List.listItems (.ref kS)
        Builtin.List.listUpdate (.ref kS) fun _ => #[]
        letGo made.toList.reverse [e]
        Builtin.List.listUpdate (.ref a) fun _ => ws.toArray
        throw e) Q E s := by
  have hlen : ws.length = xs.length := by rw [← r2.length, r1.length]
  refine ksk_fold (fun i s' => KeyI X pins σ ρ H a kS e1 (fun acc S' => keyGo sp fin (xs.drop i) acc S') i s') ws 0 s J (fun j x s' hx hJ => ?_) fun s' hJ => ?_
  · simp only [Nat.zero_add] at hJ ⊢
    obtain ⟨ρ', S', H', kA, e, acc, kvs, I', x', W', h1, h2, h3, h4, h5, h6, h7, hp⟩ := hJ.ex
    have hj : j < xs.length := by rw [← hlen]; exact (List.getElem?_eq_some_iff.mp hx).1
    obtain ⟨d, hd⟩ : ∃ d, xs[j]? = some d := ⟨_, List.getElem?_eq_getElem hj⟩
    obtain ⟨v, hv, rv⟩ := r1.get hd
    obtain ⟨v', hv', ru⟩ := vals_ix r2 hx
    rw [hv] at hv'
    cases hv'
    have ed : xs.drop j = d :: xs.drop (j + 1) := by
      rw [List.drop_eq_getElem_cons hj]
      congr 1
      rw [List.getElem?_eq_getElem hj] at hd
      exact Option.some.inj hd
    rw [ed] at hp
    have hkz : kA.size < sizeLine := by
      have q1 : kvs.length = kA.size := by have := h6.length; simpa using this
      have q2 := h5.length
      omega
    refine wpAny_bind (wpAny_attempt (wpAny_mono (run_fnG_in (E := fun _ _ _ => False) (E' := fun _ _ => False) (Q := fun v2 H2 => ∃ ρ2 S2 d2, Ext ρ' H' ρ2 H2 ∧ XW X ρ2 S2 H2 ∧ VR X.K ρ2 H2 d2 v2 ∧ keyGo sp fin (xs.drop (j + 1)) (acc ++ [d2]) S2) hA F hr hb I' (.cons ru .nil)
      ⟨ρ', S', [d], _, W', .cons (rv.ext Se x') .nil, hp, fun d2 S2 g ρ2 H2 v2 x2 W2 rv2 => ⟨ρ2, S2, d2, x2, W2, rv2, g⟩⟩) (fun u s2 hu => ?_) fun _ _ z => z.elim))
    obtain ⟨v2, H2, I2, ru2, ρ2, S2, d2, x2, W2, rv2, g⟩ := hu
    dsimp only
    have k1 : H2 a = some (.ext (LstObj a #[] e1)) := x2.keep a _ h1 h3
    have k2 : H2 kS = some (.ext (LstObj kS kA e)) := x2.keep kS _ h2 h4
    have n1 := notin_ext x2 h3 ⟨_, h1⟩
    have n2 := notin_ext x2 h4 ⟨_, h2⟩
    have ob : s2.heap.get? kS = some (seqObj "list" kA e) := (I2.hok kS _ k2).1
    obtain ⟨e', he'⟩ : ∃ e', (s2.heap.update kS (Obj.mapSeq (·.push u))).get? kS = some (seqObj "list" (kA.push u) e') := ⟨_, get?_update_seq ob (·.push u)⟩
    refine wpAny_bind (listUpdate_at ob rfl ?_ (Nat.le_of_lt hkz) (by rw [Array.size_push]; omega))
    refine wpAny_pure ⟨rfl, ⟨ρ2, S2, upd H2 kS (.ext (LstObj kS (kA.push u) e')), kA.push u, e', acc ++ [d2], kvs ++ [v2], ?_, ?_, ?_, ?_, upd_same, n1, n2, ?_, ?_, ?_, g⟩⟩
    · exact d_write (t' := s2.toks) I2 (by rw [k2]; exact True.intro) (Heap.SameBut.update ..) ⟨_, he'⟩ (lst_ok he')
    · exact ext_aside (x'.trans W'.sep x2) hk
    · exact W2.aside n2 k2 (fun vs q => by cases q) fun x y q => by cases q
    · rw [upd_ne hak.symm]; exact k1
    · have vx : VX ρ2 H2 ρ2 (upd H2 kS (.ext (LstObj kS (kA.push u) e'))) := vx_upd k2 (fun vs q => by cases q) fun x y q => by cases q
      exact VRs.snoc (VRs.vx vx _ _ (h5.ext W'.sep x2)) (VR.vx vx _ _ rv2)
    · rw [Array.toList_push]
      exact vals_snoc h6 ru2
    · simp [h7]
  · refine q s' ?_
    simp only [Nat.zero_add] at hJ
    obtain ⟨ρ', S', H', kA, e, acc, kvs, I', x', W', h1, h2, h3, h4, h5, h6, h7, hp⟩ := hJ.ex
    rw [List.drop_of_length_le (by omega)] at hp
    exact ⟨ρ', S', H', kA, e, acc, kvs, I', x', W', h1, h2, h3, h4, h5, h6, by rw [h7, hlen], hp⟩
/-- the sorted list stands -/
theorem key_tail {A : Around} {E : Value → Shared → Prop} {xs : List D} {vs : List V} {ws : List Value} {R : DQ} {Q : VK} {P : PySem.Fin → Shared → Prop} {ρ' : List Addr} {S' : Sto} {H' : Hp} {kA : Array Value} {e : Nat} {acc : List D} {kvs : List V} {st : SortSt}
    (I : L2.Inv X pins σ H' s) (x : Ext ρ H ρ' H') (W0 : XW X ρ S H) (W : XW X ρ' S' H') (h1 : H' a = some (.ext (LstObj a #[] e1))) (h2 : H' kS = some (.ext (LstObj kS kA e))) (h3 : a ∉ ρ') (h4 : kS ∉ ρ') (ha : H a = none) (hk : H kS = none) (hak : kS ≠ a)
    (r1 : VRs X.K ρ H xs vs) (r2 : Vals vs ws) (hz : ws.length ≤ sizeLine) (h5 : VRs X.K ρ' H' acc kvs) (h6 : Vals kvs kA.toList) (hl : acc.length = xs.length) (hS : Srt acc) (hf : failedOf st = none)
    (hp : (arrOf st).toList.Perm (kA.zip ws.toArray).toList) (hs : (arrOf st).toList.Pairwise (fun p q => ltT (rdV s.heap q.1) (rdV s.heap p.1) = false))
    (q : ∀ ps : List (D × D), ps.Perm (acc.zip xs) → ps.Pairwise (fun p q => ltT q.1 p.1 = false) → R (.loc S'.length) (S' ++ [.lst (ps.map (·.2))])) (p : PassE X ρ H R Q)
    (fin : ∀ s', EP X pins σ Q (.ref a) s' → P (.done (.ret .none)) s') : wpAny (model X.prog X.w) A (ksk_tail a false e1 (.ref kS) st) P E s := by
  have q1 : kvs.length = kA.size := by have := h6.length; simpa using this
  have q2 := h5.length
  have q3 := r1.length
  have q4 := r2.length
  have hks : kA.size = ws.length := by omega
  have pl := plVs_of I 90 acc kvs kA.toList (plains_of hS.plain) h5 h6
  obtain ⟨m1, m2⟩ := rdV_all pl
  have hzip : (kA.zip ws.toArray).toList = kA.toList.zip ws := by simp [Array.toList_zip]
  rw [hzip] at hp
  have hsnd : (kA.toList.zip ws).map (·.2) = ws := map_zip_snd (by simp [hks])
  have hfst : (kA.toList.zip ws).map (fun q => rdV s.heap q.1) = acc := by
    rw [← m1]
    have : (kA.toList.zip ws).map (fun q => rdV s.heap q.1) = ((kA.toList.zip ws).map (·.1)).map (rdV s.heap) := by rw [List.map_map]; rfl
    rw [this, List.map_fst_zip (by simp [hks])]
  obtain ⟨ps, k1, k2, vs', k3, k4⟩ := perm_vals2 (rd := rdV s.heap) hp xs vs (r1.ext W0.sep x) (by rw [hsnd]; exact r2)
  rw [hfst] at k1
  have hsz : (arrOf st).size = ws.length := by
    have := hp.length_eq
    simp [hks] at this
    omega
  have ob : s.heap.get? kS = some (seqObj "list" kA e) := (I.hok kS _ h2).1
  have oa : s.heap.get? a = some (seqObj "list" #[] e1) := (I.hok a _ h1).1
  unfold ksk_tail
  dsimp only
  refine wpAny_bind (listUpdate_at ob rfl ?_ (by omega) (Nat.zero_le _))
  refine wpAny_bind (wpAny_letGo ?_)
  have s1 := Heap.SameBut.update s.heap kS (Obj.mapSeq fun _ => (#[] : Array Value))
  obtain ⟨e', he'⟩ : ∃ e', (s.heap.update kS (Obj.mapSeq fun _ => (#[] : Array Value))).get? kS = some (seqObj "list" #[] e') := ⟨_, get?_update_seq ob (fun _ => #[])⟩
  have oa1 : (s.heap.update kS (Obj.mapSeq fun _ => (#[] : Array Value))).get? a = some (seqObj "list" #[] e1) := (s1.2 a hak.symm).trans oa
  refine wpAny_bind (seqEpoch_at oa1 rfl ?_)
  have I1 : L2.Inv X pins σ (upd H' kS (.ext (LstObj kS #[] e'))) { s with heap := s.heap.update kS (Obj.mapSeq fun _ => (#[] : Array Value)) } := d_write (t' := s.toks) I (by rw [h2]; exact True.intro) s1 ⟨_, he'⟩ (lst_ok he')
  have W1 : XW X ρ' S' (upd H' kS (.ext (LstObj kS #[] e'))) := W.aside h4 h2 (fun vs q => by cases q) fun x y q => by cases q
  have h1' : upd H' kS (.ext (LstObj kS #[] e')) a = some (.ext (LstObj a #[] e1)) := by rw [upd_ne hak.symm]; exact h1
  have vx1 : VX ρ' H' ρ' (upd H' kS (.ext (LstObj kS #[] e'))) := vx_upd h2 (fun vs q => by cases q) fun x y q => by cases q
  have x1 : Ext ρ H ρ' (upd H' kS (.ext (LstObj kS #[] e'))) := ext_aside x hk
  have k3' := VRs.vx vx1 _ _ k3
  generalize upd H' kS (.ext (LstObj kS #[] e')) = H1 at I1 W1 h1' x1 k3'
  have hout : ((arrOf st).map (·.2)).size = ws.length := by rw [Array.size_map]; exact hsz
  obtain ⟨e2, he2⟩ : ∃ e2, ((s.heap.update kS (Obj.mapSeq fun _ => (#[] : Array Value))).update a (Obj.mapSeq fun _ => (arrOf st).map (·.2))).get? a = some (seqObj "list" ((arrOf st).map (·.2)) e2) := ⟨_, get?_update_seq oa1 fun _ => (arrOf st).map (·.2)⟩
  refine wpAny_bind (listUpdate_at oa1 rfl ?_ (Nat.zero_le _) (by show ((arrOf st).map (·.2)).size ≤ sizeLine + 1; omega))
  rw [hf]
  simp only [bne_self_eq_false, Bool.false_eq_true, if_false]
  refine wpAny_pure (fin _ ?_)
  have vx2 : VX ρ' H1 ρ' (upd H1 a (.lst vs')) := vx_upd h1' (fun vs q => by cases q) fun x y q => by cases q
  have vx3 : VX ρ' (upd H1 a (.lst vs')) (ρ' ++ [a]) (upd H1 a (.lst vs')) := ⟨fun l b hh => by
    rw [List.getElem?_append_left (List.getElem?_eq_some_iff.mp hh).1]
    exact hh, fun _ _ hh => hh, fun _ _ _ hh => hh⟩
  have hlen : vs'.length ≤ sizeLine := by
    rw [k4.length, List.length_map, Array.length_toList, hsz]
    exact hz
  have eo : ((arrOf st).toList.map (·.2)).toArray = (arrOf st).map (·.2) := by rw [← Array.toList_map, Array.toArray_toList]
  refine ⟨.ref a, upd H1 a (.lst vs'), d_write (s := { s with heap := s.heap.update kS (Obj.mapSeq fun _ => (#[] : Array Value)) }) (t' := s.toks) I1 (by rw [h1']; exact True.intro) (Heap.SameBut.update ..) ⟨_, he2⟩ ⟨hlen, _, e2, k4, by rw [eo]; exact he2⟩, rfl, ?_⟩
  have hps : ps.Pairwise (fun p q => ltT q.1 p.1 = false) := by
    have h : ((arrOf st).toList.map fun q : Keyed => rdV s.heap q.1).Pairwise (fun p q => ltT q p = false) := List.pairwise_map.mpr hs
    rw [← k2] at h
    exact List.pairwise_map.mp h
  refine p _ _ (q ps k1 hps) (ρ' ++ [a]) _ _ ⟨?_, fun b o hb nb => ?_⟩ ((W1.aside h3 h1' (fun vs q => by cases q) fun x y q => by cases q).adopt h3 ⟨vs', upd_same, VRs.vx vx3 _ _ (VRs.vx vx2 _ _ k3')⟩) (.loc (by rw [← W.len]; exact List.getElem?_concat_length ..))
  · obtain ⟨more, e3, e4⟩ := x.pre
    refine ⟨more ++ [a], by rw [e3, List.append_assoc], fun b hb => ?_⟩
    rcases List.mem_append.mp hb with z | z
    · exact e4 b z
    · rw [List.mem_singleton.mp z]; exact ha
  · have hba : b ≠ a := fun z => by rw [z, ha] at hb; cases hb
    rw [upd_ne hba]
    exact x1.keep b o hb nb
theorem key_end {A : Around} {E : Value → Shared → Prop} {xs : List D} {vs : List V} {ws : List Value} {R : DQ} {Q : VK} {P : PySem.Fin → Shared → Prop} {ρ' : List Addr} {S' : Sto} {H' : Hp} {kA : Array Value} {e : Nat} {acc : List D} {kvs : List V}
    (hu : A.units + 100 < cLine) (I : L2.Inv X pins σ H' s) (x : Ext ρ H ρ' H') (W0 : XW X ρ S H) (W : XW X ρ' S' H') (h1 : H' a = some (.ext (LstObj a #[] e1))) (h2 : H' kS = some (.ext (LstObj kS kA e))) (h3 : a ∉ ρ') (h4 : kS ∉ ρ') (ha : H a = none) (hk : H kS = none) (hak : kS ≠ a)
    (r1 : VRs X.K ρ H xs vs) (r2 : Vals vs ws) (hz : ws.length ≤ sizeLine) (h5 : VRs X.K ρ' H' acc kvs) (h6 : Vals kvs kA.toList) (hF : keyFin xs R acc S') (p : PassE X ρ H R Q)
    (fin : ∀ s', EP X pins σ Q (.ref a) s' → P (.done (.ret .none)) s') : wpAny (model X.prog X.w) A (ksk_end a false ws.toArray e1 (.ref kS) kA) P E s := by
  obtain ⟨hS, hl, q⟩ := hF
  have q1 : kvs.length = kA.size := by have := h6.length; simpa using this
  have q2 := h5.length
  have q3 := r1.length
  have q4 := r2.length
  have hks : kA.size = ws.length := by omega
  have pl := plVs_of I 90 acc kvs kA.toList (plains_of hS.plain) h5 h6
  obtain ⟨m1, m2⟩ := rdV_all pl
  unfold ksk_end
  dsimp only
  simp only [Bool.false_eq_true, if_false, List.size_toArray]
  by_cases hn : ws.length < 2
  · simp only [if_pos hn]
    refine wpAny_bind (wpAny_pure ?_)
    rw [StateT.run_pure]
    refine wpAny_bind (wpAny_pure ?_)
    dsimp only
    refine key_tail (st := SortSt.mk' general' (kA.zip ws.toArray) #[] 7 none) I x W0 W h1 h2 h3 h4 ha hk hak r1 r2 hz h5 h6 hl hS rfl (List.Perm.refl _) ?_ q p fin
    have hlen : (kA.zip ws.toArray).toList.length < 2 := by simp; omega
    show (kA.zip ws.toArray).toList.Pairwise _
    match (kA.zip ws.toArray).toList, hlen with
    | [], _ => exact .nil
    | [_], _ => exact List.pairwise_singleton _ _
    | _ :: _ :: _, h => simp at h; omega
  · simp only [if_neg hn]
    obtain ⟨κ, hkind, hT⟩ := srt_cmp (prog := X.prog) (w := X.w) (A := A) (s := s) (rd := rdV s.heap) (us := kA.toList) (by rw [m1]; exact hS) m2 hu (by simp; omega)
    have hkind' := hkind (fun k s' => k = κ ∧ s' = s) E ⟨rfl, rfl⟩
    rw [Array.toArray_toList] at hkind'
    refine wpAny_bind (wpAny_mono hkind' (fun k s' hk' => ?_) fun _ _ z => z)
    obtain ⟨rfl, rfl⟩ := hk'
    have hall : SrtO.AllL (fun p : Keyed => p.1 ∈ kA.toList) (kA.zip ws.toArray).toList := fun p hm => by
      have : p ∈ kA.toList.zip ws := by simpa [Array.toList_zip] using hm
      exact mem_zip_fst this
    have O : SrtO.Swo (fun p q : Keyed => ltT (rdV s'.heap p.1) (rdV s'.heap q.1)) := ⟨fun x y => (swo_D (rdV_pure s'.heap)).asym x.1 y.1, fun x y z => (swo_D (rdV_pure s'.heap)).tr x.1 y.1 z.1⟩
    refine wpAny_bind (wpAny_mono (SrtO.wpS_sortO (st0 := SortSt.mk' k (kA.zip ws.toArray) #[] 7 none) (Q := fun _ st' => SrtO.Srtd (fun p q : Keyed => ltT (rdV s'.heap p.1) (rdV s'.heap q.1)) (arrOf st').toList ∧ SrtO.Stb (fun p q : Keyed => ltT (rdV s'.heap p.1) (rdV s'.heap q.1)) (arrOf st').toList (kA.zip ws.toArray).toList ∧ failedOf st' = none) O hT rfl hall rfl rfl fun st' a1 a2 a3 => ⟨a1, a2, a3⟩) ?_ fun _ _ z => z)
    rintro ⟨⟨⟩, st'⟩ s2 ⟨rfl, hp1, hp2, hf⟩
    dsimp only
    exact key_tail I x W0 W h1 h2 h3 h4 ha hk hak r1 r2 hz h5 h6 hl hS hf hp2.perm hp1 q p fin
end
end
end Dl

namespace Dl
open PySem L2 PyProof.Rows PySem.Spec

/-! ## sorted(x, key=f) -/
section
variable {X : Cx} {pins : List (Addr × Obj)} {σ : L2.St} {ρ : List Addr} {S : Sto} {H : Hp} {s : Shared}
/-- list.sort of a new list of the items ws, by the keys that the def at f makes -/
theorem key_sort {A : Around} {E : Value → Shared → Prop} {k : Nat} {f : Addr} {fd : FuncData} {ps : List Str} {sp : DSp} {xs : List D} {vs : List V} {ws : List Value} {R : DQ} {Q : VK} {P : PySem.Fin → Shared → Prop}
    (hA : A.frames = X.A.frames) (F : FnG X.prog X.w X.K X.mg X.base CX0 k f fd ps (spD X.w X.K X.mg sp)) (hr : RoomG k A) (hb : Binds X.K fd ps []) (hu : A.units + 100 < cLine) (I : L2.Inv X pins σ H s) (W : XW X ρ S H)
    (r1 : VRs X.K ρ H xs vs) (r2 : Vals vs ws) (hz : ws.length ≤ sizeLine) (hg : keyGo sp (keyFin xs R) xs [] S) (p : PassE X ρ H R Q) (fin : ∀ s', EP X pins σ Q (.ref s.heap.objs.size) s' → P (.done (.ret .none)) s') :
    wpAny (model X.prog X.w) A (ksk_tree s.heap.objs.size (.ref f) false) P E { s with heap := s.heap.push (seqObj "list" ws.toArray 0) } := by
  have ho : (s.heap.push (seqObj "list" ws.toArray 0)).get? s.heap.objs.size = some (seqObj "list" ws.toArray 0) := Heap.get?_push_size _ rfl
  have ha0 : H s.heap.objs.size = none := I.hok.fresh (Nat.le_refl _)
  have s1 := Heap.SameBut.update (s.heap.push (seqObj "list" ws.toArray 0)) s.heap.objs.size (Obj.mapSeq fun _ => (#[] : Array Value))
  obtain ⟨e1, ho1⟩ : ∃ e1, ((s.heap.push (seqObj "list" ws.toArray 0)).update s.heap.objs.size (Obj.mapSeq fun _ => (#[] : Array Value))).get? s.heap.objs.size = some (seqObj "list" #[] e1) := ⟨_, get?_update_seq ho fun _ => #[]⟩
  have hsz : ((s.heap.push (seqObj "list" ws.toArray 0)).update s.heap.objs.size (Obj.mapSeq fun _ => (#[] : Array Value))).objs.size = s.heap.objs.size + 1 := by rw [Heap.size_update, size_push']
  have keep1 : ∀ b u, s.heap.get? b = some u → ((s.heap.push (seqObj "list" ws.toArray 0)).update s.heap.objs.size (Obj.mapSeq fun _ => (#[] : Array Value))).get? b = some u := fun b u e =>
    (s1.2 b (Nat.ne_of_lt (Heap.lt_size e))).trans (Heap.get?_push_of_some _ e)
  unfold ksk_tree
  refine wpAny_bind (listItems_at ho rfl ?_)
  refine wpAny_bind (listUpdate_at ho rfl ?_ (by simpa using hz) (Nat.zero_le _))
  refine wpAny_bind (seqEpoch_at ho1 rfl ?_)
  refine wpAny_bind (wpAny_newTuple ?_ (by simpa using hz))
  refine wpAny_bind (wpAny_newList ?_ (Nat.zero_le _))
  refine wpAny_holding ?_
  generalize hh3 : (s.heap.push (seqObj "list" ws.toArray 0)).update s.heap.objs.size (Obj.mapSeq fun _ => (#[] : Array Value)) = h3 at ho1 hsz keep1 ⊢
  have I4 : L2.Inv X pins σ (upd H s.heap.objs.size (.ext (LstObj s.heap.objs.size #[] e1))) { s with heap := h3.push (seqObj "tuple" ws.toArray 0), toks := s.toks } :=
    I.laid (a := s.heap.objs.size) (fun b u e => Heap.get?_push_of_some _ (keep1 b u e)) (Nat.le_refl _) (lst_ok (Heap.get?_push_of_some _ ho1))
  have hkS : (h3.push (seqObj "tuple" ws.toArray 0)).objs.size = s.heap.objs.size + 2 := by rw [size_push', hsz]
  have hk4 : upd H s.heap.objs.size (.ext (LstObj s.heap.objs.size #[] e1)) (h3.push (seqObj "tuple" ws.toArray 0)).objs.size = none := I4.hok.fresh (Nat.le_refl _)
  have hne : (h3.push (seqObj "tuple" ws.toArray 0)).objs.size ≠ s.heap.objs.size := by rw [hkS]; omega
  have hk0 : H (h3.push (seqObj "tuple" ws.toArray 0)).objs.size = none := by rw [upd_ne hne] at hk4; exact hk4
  have W4 : XW X ρ S (upd H s.heap.objs.size (.ext (LstObj s.heap.objs.size #[] e1))) := W.laid ha0
  have I5 : L2.Inv X pins σ (upd (upd H s.heap.objs.size (.ext (LstObj s.heap.objs.size #[] e1))) (h3.push (seqObj "tuple" ws.toArray 0)).objs.size (.ext (LstObj (h3.push (seqObj "tuple" ws.toArray 0)).objs.size #[] 0)))
      { s with heap := (h3.push (seqObj "tuple" ws.toArray 0)).push (seqObj "list" #[] 0), toks := s.toks } :=
    I4.laid (fun b u e => Heap.get?_push_of_some _ e) (Nat.le_refl _) (lst_ok (Heap.get?_push_size _ rfl))
  have W5 := W4.laid (u := .ext (LstObj (h3.push (seqObj "tuple" ws.toArray 0)).objs.size #[] 0)) hk4
  have x4 : Ext ρ H ρ (upd H s.heap.objs.size (.ext (LstObj s.heap.objs.size #[] e1))) := ext_new ha0
  have x5 := ext_aside (u := .ext (LstObj (h3.push (seqObj "tuple" ws.toArray 0)).objs.size #[] 0)) x4 hk0
  show wpAny (model X.prog X.w) A (ksk_rest s.heap.objs.size (.ref f) false ws.toArray e1 (.ref (h3.push (seqObj "tuple" ws.toArray 0)).objs.size)) P E { s with heap := (h3.push (seqObj "tuple" ws.toArray 0)).push (seqObj "list" #[] 0) }
  generalize (h3.push (seqObj "tuple" ws.toArray 0)).objs.size = kS at hk0 hne I5 W5 x5 hk4 ⊢
  generalize hH5 : upd (upd H s.heap.objs.size (.ext (LstObj s.heap.objs.size #[] e1))) kS (.ext (LstObj kS #[] 0)) = H5 at I5 W5 x5
  have g1 : H5 s.heap.objs.size = some (.ext (LstObj s.heap.objs.size #[] e1)) := by rw [← hH5, upd_ne hne.symm, upd_same]
  have g2 : H5 kS = some (.ext (LstObj kS #[] 0)) := by rw [← hH5, upd_same]
  unfold ksk_rest
  refine wpAny_bind (wpAny_rule ?_)
  rw [List.forIn_toArray]
  refine wpAny_bind (key_loop (ρ := ρ) (H := H) (xs := xs) (vs := vs) hA F hr hb W.sep r1 r2 hz ha0 hk0 hne ⟨ρ, S, H5, #[], 0, [], [], I5, x5, W5, g1, g2, W.notin ha0, W.notin hk0, .nil, .nil, rfl, hg⟩ fun s' J => ?_)
  obtain ⟨ρ', S', H', kA, e, acc, kvs, I', x', W', h1, h2, h3', h4, h5, h6, h7, hp⟩ := J.ex
  have ob : s'.heap.get? kS = some (seqObj "list" kA e) := (I'.hok kS _ h2).1
  refine wpAny_bind (listItems_at ob rfl ?_)
  exact key_end hu I' x' W W' h1 h2 h3' h4 ha0 hk0 hne r1 r2 hz h5 h6 hp p fin
end
section
variable {X : Cx} {pos p p2 kpos : Pos} {e : Expr} {wr : WA} {x : Str} {k : Nat} {sp : DSp}
theorem de_sortK (F : FnD X.prog X.w X.K X.mg X.base k x sp) (hr : RoomG (k + 2) X.A) (hc : X.calm = true) (hu : X.A.units + 150 < cLine) (hm : X.mg "sorted" = none) (hg : Gl X "sorted") (hgx : Gl X x) (ha : PA X [e] (dA X wr))
    (hdx : (x == ("__debug__" : Str)) = false := by decide)
    (hes : backTo pos (starEach [e] X.env) = (false, eval e X.env) :: backTo pos (starEach [] X.env) := by rfl) (hpl : (backTo pos (starEach [e] X.env)).any (·.1) = false := by rfl)
    (hall : (backToKw pos (keywordEach [⟨some "key", .Name x p2, kpos⟩] X.env)).all (·.1.isSome) = true := by rfl) (hnone : (backToKw pos (keywordEach [⟨some "key", .Name x p2, kpos⟩] X.env)).any (·.1.isNone) = false := by rfl) (hks : (backToKw pos (keywordEach [⟨some "key", .Name x p2, kpos⟩] X.env)).filterMap (·.1) = [Str.ofString "key"] := by rfl) :
    PE X (.Call (.Name "sorted" p) [e] [⟨some "key", .Name x p2, kpos⟩] pos) (dE X (wSortK sp wr)) := by
  obtain ⟨f, fd, ps, h1, h2, h3, h4⟩ := F.ex
  have hcr : CallRK X (.builtin "sorted") [Str.ofString "key"] (fun vs zs H Q => zs = [V.ref f] ∧ ∃ ρ S d xs R, XW X ρ S H ∧ VRs X.K ρ H [d] vs ∧ srcD S d = some xs ∧ keyGo sp (keyFin xs R) xs [] S ∧ PassE X ρ H R Q) := by
    intro pins s σ H vs zs us ws Q I r rz ⟨ez, ρ, S, d, xs, R, W, rd, es, hgo, pe⟩
    subst ez
    obtain ⟨v, rfl, rv⟩ := rd.one_of
    obtain ⟨u, rfl, ru⟩ := vals1 r
    obtain ⟨w1, rfl, e1⟩ := vals1 rz
    cases (show w1 = Value.ref f from e1)
    refine call_function_entry_kw kind_sorted plain_sorted entry_sorted (ksk_s1 _ _) ?_
    unfold Builtin.«sorted»
    refine wpAny_bind (m := checkCount "sorted" 1 1 _) (wpAny_pure ?_)
    refine wpAny_bind (col_ok (A := X.A.in1) (I.ok.hd hc) I W rv ru es fun h1' tk ws' vs' hk r1 r2 hz => ?_)
    have I1 : L2.Inv X pins σ H { s with heap := h1', toks := tk } := I.kept hk
    refine wpAny_bind (wpAny_newList ?_ hz)
    have hoL : (h1'.push (seqObj "list" ws'.toArray 0)).get? h1'.objs.size = some (seqObj "list" ws'.toArray 0) := Heap.get?_push_size _ rfl
    show wpAny _ _ _ _ _ { s with heap := h1'.push (seqObj "list" ws'.toArray 0), toks := tk }
    refine wpAny_bind (wpAny_holding (wpAny_call_entry_kw slot_list_sort ⟨_, hoL, rfl⟩ entry_list_sort ?_ (ksk_l1 _ _)))
    show wpAny _ _ (Builtin.«list.sort» ⟨[.ref h1'.objs.size], [(Str.ofString "key", .ref f)]⟩) _ _ _
    rw [ksk_t1]
    refine key_sort (s := { s with heap := h1', toks := tk }) (A := X.A.in1.in1) rfl h1 ⟨⟨hr.room.hd, ?_, ?_⟩, hr.gd⟩ h4 (by show X.A.units + 1 + 1 + 100 < cLine; omega) I1 W r1 r2 hz hgo pe fun s' q => ⟨_, rfl, wpAny_pure ⟨_, rfl, q⟩⟩
    · have := hr.room.dp
      show X.A.depth + 3 * k + 5 < recursionLimit
      omega
    · have := hr.room.un
      show X.A.units + 1 + 1 + 16 * k + 200 < cLine
      omega
  refine PE.imp (pe_callBK hcr hg hm (by rfl) ha (pk_cons (pe_glob (v := .ref f) hgx h2 rfl hdx) pk_nil) (by decide) (by decide) hes hpl hall hnone hks) fun σ H Q ⟨ρ, τ, S, R, W, er, h, pe⟩ => ?_
  refine ⟨ρ, τ, S, _, W, er, h, fun ds S1 ⟨d, xs, e1, e2, e3⟩ ρ1 H1 vs x1 W1 r => ?_⟩
  subst e1
  exact ⟨rfl, ρ1, S1, d, xs, R, W1, r, e2, e3, pe.ext W1 x1⟩
end
section
variable {τ : DEnv} {S : Sto} {R : DQ} {sp : DSp} {wr : WA}
@[simp ↓] theorem wSortK_ap : wSortK sp wr τ S R = wr τ S fun ds S1 => ∃ d xs, ds = [d] ∧ srcD S1 d = some xs ∧ keyGo sp (keyFin xs R) xs [] S1 := rfl
theorem keyGo_run {xs acc : List D} {fin : List D → Sto → Prop} (f : D → D) (I : Sto → Prop) (hI : I S) (hs : ∀ d S' (N : DQ), d ∈ xs → I S' → (∀ S'', I S'' → N (f d) S'') → sp [d] S' N) (h0 : ∀ S', I S' → fin (acc ++ xs.map f) S') : keyGo sp fin xs acc S := by
  induction xs generalizing acc S with
  | nil => simpa [keyGo] using h0 S hI
  | cons d xs ih =>
    unfold keyGo
    refine hs d S _ List.mem_cons_self hI fun S'' I'' => ih I'' (fun c S' N hc => hs c S' N (List.mem_cons_of_mem _ hc)) fun S' I' => ?_
    have := h0 S' I'
    simpa using this
end
end Dl

namespace Dl
open PySem L2

/-! ## while by a measure; orders kept aside -/
theorem whileN_run {c : WT} {b : WS} {R : DEnds} (I : Nat → DEnv → Sto → Prop)
    (hs : ∀ m τ S (N : DEnv → Sto → Prop), I m τ S → (∀ k τ' S', k < m → I k τ' S' → N τ' S') → c τ S fun v S1 => if v = true then b { nx := N, ct := N, bk := R.nx, rt := R.rt } τ S1 else R.nx τ S1) :
    ∀ (n m : Nat) (τ : DEnv) (S : Sto), m < n → I m τ S → whileN c b n R τ S
  | 0, m, _, _, h, _ => by omega
  | n + 1, m, τ, S, h, hI => hs m τ S _ hI fun k τ' S' hk hI' => whileN_run I hs n k τ' S' (by omega) hI'
/-- a while whose measure sinks -/
theorem while_run {c : WT} {b : WS} {R : DEnds} {τ : DEnv} {S : Sto} (m : Nat) (I : Nat → DEnv → Sto → Prop) (hi : I m τ S)
    (hs : ∀ m τ S (N : DEnv → Sto → Prop), I m τ S → (∀ k τ' S', k < m → I k τ' S' → N τ' S') → c τ S fun v S1 => if v = true then b { nx := N, ct := N, bk := R.nx, rt := R.rt } τ S1 else R.nx τ S1) : wWhile c b R τ S :=
  ⟨m + 1, whileN_run I hs (m + 1) m τ S (Nat.lt_succ_self m) hi⟩
theorem perm_lift {α β : Type} {f : α → β} {ms ns : List β} (p : ms.Perm ns) : ∀ {as : List α}, ns = as.map f → ∃ bs : List α, bs.Perm as ∧ ms = bs.map f := by
  induction p with
  | nil => exact fun h => ⟨[], by cases ‹List α› <;> simp_all, rfl⟩
  | cons x _ ih =>
    intro as h
    cases as with
    | nil => cases h
    | cons a as =>
      simp only [List.map_cons, List.cons.injEq] at h
      obtain ⟨bs, h1, h2⟩ := ih h.2
      exact ⟨a :: bs, h1.cons a, by rw [List.map_cons, ← h.1, h2]⟩
  | swap x y l =>
    intro as h
    match as, h with
    | [], h => cases h
    | [a], h => simp at h
    | a :: b :: as, h =>
      simp only [List.map_cons, List.cons.injEq] at h
      exact ⟨b :: a :: as, List.Perm.swap _ _ _, by rw [List.map_cons, List.map_cons, ← h.1, ← h.2.1, h.2.2]⟩
  | trans _ _ ih1 ih2 =>
    intro as h
    obtain ⟨bs, h1, h2⟩ := ih2 h
    obtain ⟨cs, h3, h4⟩ := ih1 h2
    exact ⟨cs, h3.trans h1, h4⟩
@[simp] theorem dSortD_ap {d : D} {S : Sto} {R : DQ} : dSortD [d] S R = ∃ xs, srcD S d = some xs ∧ Srt xs ∧ ∀ ys, ys.Perm xs → ys.Pairwise (fun a b => ltT b a = false) → R (.loc S.length) (S ++ [.lst ys]) := by simp [dSortD]
mutual
theorem plain_pure : ∀ (n : Nat) (d : D), plainD n d = true → pureD d = true
  | n, .non, _ => rfl
  | n, .int _, _ => rfl
  | n, .str _, _ => rfl
  | 0, .tup ds, h => by simp [plainD] at h
  | n + 1, .tup ds, h => by rw [pureD]; exact plains_pure n ds (plainD_tup.mp h).2
  | n, .bl _, h => by simp [plainD] at h
  | n, .fls _, h => by simp [plainD] at h
  | n, .loc _, h => by simp [plainD] at h
theorem plains_pure : ∀ (n : Nat) (ds : List D), plainsD n ds = true → puresD ds = true
  | n, [], _ => rfl
  | n, d :: ds, h => by
    simp only [plainsD, Bool.and_eq_true] at h
    rw [puresD, plain_pure n d h.1, plains_pure n ds h.2]
    rfl
end
end Dl

namespace Dl
open PySem L2 PyProof.Rows PySem.Spec

/-! ## sets of whole numbers and texts, whose tables can be walked -/
/-- an entry's key -/
def vKey (e : Int × Value) : Key := match e.2 with
  | .int k _ => .inl k
  | .str x _ => .inr x
  | _ => .inl 0
def GoodM (w : World) (e : Int × Value) : Prop := ∃ k, keyIs k e.2 = true ∧ e.1 = keyH w k
theorem vKey_is {w : World} {e : Int × Value} (g : GoodM w e) (k : Key) : keyIs k e.2 = true ↔ vKey e = k := by
  obtain ⟨h, v⟩ := e
  obtain ⟨k0, h1, _⟩ := g
  rcases keyIs_shape h1 with ⟨i, t, rfl, e⟩ | ⟨x, t, rfl, e⟩
  · simp only at e
    subst e
    unfold vKey
    constructor
    · intro q
      rcases keyIs_shape q with ⟨j, u, rfl, e⟩ | ⟨y, u, rfl, e⟩
      · injection e with e1 _; simp [e1]
      · exact nomatch e
    · intro q
      simp only at q
      rw [← q]
      exact keyIs_int _ _
  · simp only at e
    subst e
    unfold vKey
    constructor
    · intro q
      rcases keyIs_shape q with ⟨j, u, rfl, e⟩ | ⟨y, u, rfl, e⟩
      · exact nomatch e
      · injection e with e1 _; simp [e1]
    · intro q
      simp only at q
      rw [← q]
      exact keyIs_str _ _
theorem key_scan {k : Key} {v : Value} (h : keyIs k v = true) : v.scannable = true := by
  rcases keyIs_shape h with ⟨i, t, _, rfl⟩ | ⟨x, t, _, rfl⟩ <;> rfl
/-- the entries, the table, whose members S are -/
structure TbM (w : World) (es : Array (Int × Value)) (t : SetTable) (S : Key → Prop) : Prop where
  good : ∀ e ∈ es.toList, GoodM w e
  nd : (es.toList.map vKey).Nodup
  mem : ∀ k, S k ↔ k ∈ es.toList.map vKey
  bd : es.size < scanBound
  fits : t.fits es.size = true
  ris : Ris t.place.toList
  led : w.params.followText "set-order" = true ∨ t.led = true
def SetM (w : World) (h : Heap) (a : Addr) (S : Key → Prop) (n : Nat) : Prop := ∃ o es ep t, h.get? a = some o ∧ o.ExactSet ∧ o.data = .set es ep t ∧ TbM w es t S ∧ es.size ≤ n
section
variable {P : Program} {w : World} {A : Around} {E : Value → Shared → Prop} {s : Shared} {a : Addr} {S : Key → Prop} {n : Nat}
theorem SetM.at {h h' : Heap} (R : SetM w h a S n) (k : ∀ o, h.get? a = some o → h'.get? a = some o) : SetM w h' a S n :=
  let ⟨o, es, ep, t, ho, r⟩ := R
  ⟨o, es, ep, t, k o ho, r⟩
theorem SetM.congr {h : Heap} {S' : Key → Prop} {m : Nat} (R : SetM w h a S n) (e : ∀ k, S' k ↔ S k) (hm : n ≤ m) : SetM w h a S' m :=
  let ⟨o, es, ep, t, ho, hx, hd, T, hn⟩ := R
  ⟨o, es, ep, t, ho, hx, hd, ⟨T.good, T.nd, fun k => (e k).trans (T.mem k), T.bd, T.fits, T.ris, T.led⟩, Nat.le_trans hn hm⟩
theorem TbM.elems {es : Array (Int × Value)} {t : SetTable} (T : TbM w es t S) : ElemsOf (mixKind P w) es.toList := fun e he => by
  obtain ⟨k, h1, h2⟩ := T.good e he
  exact ⟨⟨k, h1, h2⟩, key_scan h1⟩
/-- the new entry laid, the table grown, where it must -/
theorem lay_tail {g : Bool → Sem Unit} (hg : ∀ (b : Bool) (s₁ : Shared) (Q' : Unit → Shared → Prop), Q' () s₁ → wpAny (model P w) A (g b) Q' E s₁)
    {o : Obj} {es es1 : Array (Int × Value)} {ep : Nat} {t t2 : SetTable} (ho : s.heap.get? a = some o) (hex : o.ExactSet) (hd : o.data = .set es ep t) (T : TbM w es1 t2 S) (hn : es1.size ≤ n) {dummy : Bool} {R : Option Bool → Shared → Prop}
    (hR : ∀ h', Heap.SameBut a s.heap h' → SetM w h' a S n → R (some true) { s with heap := h' }) :
    wpAny (model P w) A (do
        storeSet a es1 t2
        if (!dummy && t2.tooFull) = true then do
            g (relayAll t2 es1 (SetTable.grown es1.size)).2.2
            storeSet a (relayAll t2 es1 (SetTable.grown es1.size)).1 (relayAll t2 es1 (SetTable.grown es1.size)).2.1
            pure (some true)
          else pure (some true)) R E s := by
  refine wpAny_bind (wpAny_storeSet_of ho hd ?_ (fits_of_scanBound T.bd))
  have ho1 := store_at (es' := es1) (t' := t2) ho hd
  have sb1 := Heap.SameBut.update s.heap a (Obj.putSet es1 t2)
  split
  · have pm := relayAll_perm t2 es1 (SetTable.grown es1.size)
    have hf3 := relayAll_fits t2 es1 (SetTable.grown es1.size)
    have hr3 := relayAll_ris t2 es1 (SetTable.grown es1.size)
    have hl3 := relayAll_led t2 es1 (SetTable.grown es1.size)
    generalize relayAll t2 es1 (SetTable.grown es1.size) = Z at pm hf3 hr3 hl3 ⊢
    obtain ⟨es2, t3, gave⟩ := Z
    dsimp only at pm hf3 hr3 hl3 ⊢
    have hsz : es2.size = es1.size := by rw [← Array.length_toList, pm.length_eq, Array.length_toList]
    have hb2 : es2.size < scanBound := by rw [hsz]; exact T.bd
    refine wpAny_bind (hg _ _ _ ?_)
    refine wpAny_bind (wpAny_storeSet_of ho1 rfl ?_ (fits_of_scanBound hb2))
    have ho2 := store_at (es' := es2) (t' := t3) ho1 rfl
    refine wpAny_pure (hR _ (sb1.trans (Heap.SameBut.update _ a _)) ?_)
    exact ⟨_, es2, _, t3, ho2, hex, rfl, ⟨fun e he => T.good e (pm.mem_iff.mp he), (pm.map vKey).nodup_iff.mpr T.nd, fun k => (T.mem k).trans (pm.map vKey).mem_iff.symm, hb2, hf3, hr3, T.led.imp id fun z => by rw [hl3]; exact z⟩, by rw [hsz]; exact hn⟩
  · exact wpAny_pure (hR _ sb1 ⟨_, es1, _, t2, ho1, hex, rfl, T, hn⟩)
theorem setM_add {k : Key} {v : Value} {Q : Bool → Shared → Prop} (R : SetM w s.heap a S n) (hkey : keyIs k v = true) (room : n + 1 < scanBound)
    (hQ : ∀ b h', Heap.SameBut a s.heap h' → SetM w h' a (fun j => S j ∨ j = k) (n + 1) → Q b { s with heap := h' }) :
    wpAny (model P w) A (setAddHashed a v ((mixKind P w).hash k)) Q E s := by
  obtain ⟨o, es, ep, t, ho, hex, hd, T, hn⟩ := R
  have hkey' : (mixKind P w).is k v = true := hkey
  have hsc : v.scannable = true := key_scan hkey
  have hel : ElemsOf (mixKind P w) es.toList := T.elems
  unfold setAddHashed setAddHashedIn
  refine wpAny_holding (wpAny_bind (wpAny_setState_of ho hd T.fits ?_))
  dsimp only
  rw [byScan_of hsc T.bd hel]
  simp only [↓reduceIte]
  unfold setAddByScan
  refine wpAny_bind ?_
  refine wpAny_bind (wpAny_rule ?_)
  refine wpAny_bind (wpAny_setScan_of hkey' ho hd T.fits hel ?_)
  have memS : S k ↔ ∃ e ∈ es.toList, (mixKind P w).is k e.2 = true := by
    rw [T.mem k, List.mem_map]
    constructor
    · rintro ⟨e, he, q⟩
      exact ⟨e, he, (vKey_is (T.good e he) k).mpr q⟩
    · rintro ⟨e, he, q⟩
      exact ⟨e, he, (vKey_is (T.good e he) k).mp q⟩
  cases hfi : List.findIdx? (fun e => (mixKind P w).is k e.2) es.toList with
  | some j =>
    dsimp only
    obtain ⟨hj, pj, _⟩ := List.findIdx?_eq_some_iff_getElem.mp hfi
    have hSk : S k := memS.mpr ⟨es.toList[j], List.getElem_mem hj, pj⟩
    refine wpAny_pure (wpAny_pure ?_)
    exact hQ false s.heap (Heap.SameBut.refl a s.heap) ⟨o, es, ep, t, ho, hex, hd, ⟨T.good, T.nd, fun i => ⟨fun z => (T.mem i).mp (z.elim id fun e => e ▸ hSk), fun z => .inl ((T.mem i).mpr z)⟩, T.bd, T.fits, T.ris, T.led⟩, Nat.le_succ_of_le hn⟩
  | none =>
    dsimp only
    have hnk : k ∉ es.toList.map vKey := fun z => by
      obtain ⟨e, he, q⟩ := memS.mp ((T.mem k).mpr z)
      have c := List.findIdx?_eq_none_iff.mp hfi e he
      rw [q] at c
      cases c
    have hgw : ∀ (b : Bool) {s₁ : Shared} {Q' : Unit → Shared → Prop}, Q' () s₁ → wpAny (model P w) A (match b with | true => rule "set.scan.the-table-gave-way" | false => pure ()) Q' E s₁ :=
      fun b s₁ Q' q => by cases b <;> first | exact wpAny_pure q | exact wpAny_rule q
    have pm := layNew_perm t es ((mixKind P w).hash k) v
    have hf1 := layNew_fits t es ((mixKind P w).hash k) v
    have hr1 := layNew_ris t es ((mixKind P w).hash k) v T.ris
    have hl1 := layNew_led t es ((mixKind P w).hash k) v
    generalize layNew t es ((mixKind P w).hash k) v = Z at pm hf1 hr1 hl1 ⊢
    obtain ⟨es1, t1, wasDummy, gave⟩ := Z
    dsimp only at pm hf1 hr1 hl1 ⊢
    rw [Array.toList_push] at pm
    have pc : es1.toList.Perm (((mixKind P w).hash k, v) :: es.toList) := pm.trans (List.perm_append_singleton _ _)
    have gk : GoodM w ((mixKind P w).hash k, v) := ⟨k, hkey, rfl⟩
    have ek : vKey ((mixKind P w).hash k, v) = k := (vKey_is gk k).mp hkey
    have pk : (es1.toList.map vKey).Perm (k :: es.toList.map vKey) := by
      have := pc.map vKey
      rw [List.map_cons, ek] at this
      exact this
    have hsz : es1.size = es.size + 1 := by rw [← Array.length_toList, pc.length_eq, List.length_cons, Array.length_toList]
    have T1 : ∀ t2 : SetTable, t2.fits es1.size = true → Ris t2.place.toList → t2.led = t1.led → TbM w es1 t2 fun j => S j ∨ j = k := fun t2 f r l => {
      good := fun e he => by
        rcases List.mem_cons.mp (pc.mem_iff.mp he) with z | z
        · rw [z]; exact gk
        · exact T.good e z
      nd := pk.nodup_iff.mpr (List.nodup_cons.mpr ⟨hnk, T.nd⟩)
      mem := fun i => by
        rw [T.mem i, pk.mem_iff, List.mem_cons]
        exact Or.comm
      bd := by omega
      fits := f
      ris := r
      led := T.led.imp id fun z => by rw [l, hl1]; exact z }
    have hn1 : es1.size ≤ n + 1 := by omega
    refine wpAny_bind (hgw _ ?_)
    split
    · refine wpAny_bind ?_
      rw [hashByValue_scannable 8 hsc]
      refine wpAny_pure ?_
      refine lay_tail ?_ ho hex hd (T1 _ ?_ ?_ ?_) hn1 ?_
      · intro b s₁ Q' q; cases b <;> first | exact wpAny_pure q | exact wpAny_rule q
      · first | (split <;> first | exact hf1 | exact SetTable.fits_plain_off hf1) | exact hf1
      · first | (split <;> exact hr1) | exact hr1
      · first | (split <;> rfl) | rfl
      · intro h' sb r; dsimp only; exact wpAny_pure (hQ _ _ sb r)
    · refine wpAny_bind (wpAny_pure ?_)
      simp only [↓reduceIte]
      refine lay_tail ?_ ho hex hd (T1 _ hf1 hr1 rfl) hn1 ?_
      · intro b s₁ Q' q; cases b <;> first | exact wpAny_pure q | exact wpAny_rule q
      · intro h' sb r; dsimp only; exact wpAny_pure (hQ _ _ sb r)
theorem setM_fresh {h : Heap} (ho : h.get? a = some { cls := .type "set", dict := none, data := .set #[] 0 (.fresh 0 0 (!w.params.followText "set-order")) }) : SetM w h a (fun _ => False) 0 :=
  ⟨_, #[], 0, _, ho, ⟨rfl, rfl, rfl⟩, rfl, ⟨fun e he => by simp at he, by simp, fun k => by simp, by decide, by rfl, List.Pairwise.nil, by
    show _ ∨ (!w.params.followText "set-order") = true
    cases w.params.followText "set-order"
    · exact .inr rfl
    · exact .inl rfl⟩, Nat.le_refl _⟩
theorem setM_update {I : Addr} {fp wr : List Addr} {G : Array GenState → Array GenState → Prop} {m : Nat} {Pv : Nat → Value → Prop} {St : Nat → Shared → Prop} {R : Result → Shared → Prop}
    (W : WalksS P w A.in1 I fp wr G m Pv St) (D : Addr) (hSf : D ∉ fp) (ks : List Key) (hn : m = ks.length) (hb : ks.length + 1 < scanBound) (hval : ∀ i v, Pv i v → ∃ k, ks[i]? = some k ∧ keyIs k v = true) :
    ∀ (k i : Nat) (s : Shared), m - i = k → i ≤ m → St i s → SetM w s.heap D (fun j => j ∈ ks.take i) i →
      (∀ s', Moved (D :: wr) G s s' → SetM w s'.heap D (fun j => j ∈ ks) m → R (.ok (.ret .none)) s') →
      codeAny (model P w) A (.builtin "set.update.loop" ⟨[.ref D, .ref I], []⟩) R s := by
  have hSw : D ∉ wr := fun h => hSf (W.sub _ h)
  have hsub : ∀ b ∈ wr, b ∈ D :: wr := fun b hb => List.mem_cons_of_mem _ hb
  intro k
  induction k with
  | zero =>
    intro i s hk' hi hst hS hR
    have hin : i = m := by omega
    subst hin
    refine codeAny_builtin F.entry_set_update_loop ?_
    rw [Around.under_plainId F.plain_set_update_loop _]
    show wpAny _ A.in1 (pyNext (.ref I) >>= _) _ _ s
    refine wpAny_bind (W.done s _ _ hst fun s' hm => ?_)
    show wpAny _ A.in1 (ret Value.none) _ _ s'
    have e : ks.take i = ks := List.take_of_length_le (by omega)
    rw [e] at hS
    exact wpAny_pure (hR s' (hm.mono hsub) (hS.at fun o e => hm.heap D o hSw e))
  | succ k ih =>
    intro i s hk' hi hst hS hR
    have hlt : i < m := by omega
    refine codeAny_builtin F.entry_set_update_loop ?_
    rw [Around.under_plainId F.plain_set_update_loop _]
    show wpAny _ A.in1 (pyNext (.ref I) >>= _) _ _ s
    refine wpAny_bind (W.item i s _ _ hlt hst fun v s' hP hst' hm => ?_)
    obtain ⟨z, hz, hk⟩ := hval i v hP
    have hS' : SetM w s'.heap D (fun j => j ∈ ks.take i) i := hS.at fun o e => hm.heap D o hSw e
    show wpAny _ A.in1 (holding [v] (setAdd D v) >>= _) _ _ s'
    refine wpAny_bind (wpAny_holding ?_)
    unfold setAdd
    refine wpAny_holding ?_
    refine wpAny_bind ((mixKind P w).pyHash (k := z) hk ?_)
    refine setM_add (s := { s' with toks := s'.toks + 1 }) hS' hk (by omega) fun b h' hsb hS2 => ?_
    have hS3 : SetM w h' D (fun j => j ∈ ks.take (i + 1)) (i + 1) := hS2.congr (fun j => by
      rw [List.take_add_one, hz]
      simp [List.mem_append]) (Nat.le_refl _)
    refine wpAny_pure ⟨plainId_quiet F.plain_set_update_loop _, ih (i + 1) _ (by omega) hlt (W.frame _ s' _ _ hst' (Nat.le_succ _) fun b hb o e => ?_) hS3 fun s'' hm'' hS'' => ?_⟩
    · rw [hsb.2 b (fun h : b = D => hSf (by rw [← h]; exact hb))]; exact e
    · refine hR s'' (Moved.trans W.gtrans ((hm.mono hsub).then_heap (Nat.le_succ _) fun b o hb e => ?_) hm'') hS''
      rw [hsb.2 b (fun h : b = D => hb (by rw [h]; exact List.mem_cons_self))]; exact e
/-- set(xs) -/
theorem call_setM {l : Addr} {items : Array Value} (ks : List Key) {Q : Value → Shared → Prop} (hh : A.handled = none) (hl : s.heap.IsList l items) (hsz : items.size = ks.length) (hit : ∀ (i : Nat) (v : Value), items[i]? = some v → ∃ k, ks[i]? = some k ∧ keyIs k v = true) (hb : ks.length + 1 < scanBound)
    (h : ∀ (h' : Heap) (tk : Nat), SetM w h' s.heap.objs.size (fun j => j ∈ ks) ks.length → (∀ b o, s.heap.get? b = some o → h'.get? b = some o) → Q (.ref s.heap.objs.size) { s with heap := h', toks := tk }) :
    wpAny (model P w) A (call (.type "set") [.ref l]) Q E s := by
  obtain ⟨c, tl, hmro⟩ := F.called_set.mro
  have hmade := F.called_set.made
  have hsub := F.called_set.sub
  refine wpAny_call (codeAny_of_tree ?_)
  show wpAny _ _ (callAny (.type "set") _) _ _ _
  refine wpAny_pure ⟨Code.quiet_builtin _ (by decide +kernel), codeAny_builtin F.entry_type_call ?_⟩
  rw [Around.under_plain (weight_type_call_type "set" [.ref l] []) rfl]
  have h1 := F.called_set.notType
  have h2 := F.called_set.canCreate
  have hct := F.typeCall_set_1 (.ref l)
  repeat (any_goals (first | assumption | wp_step))
  refine codeAny_mono (code_set_led1 (.ref l) (E := E) (Q₁ := fun obj s₁ => obj = .ref s.heap.objs.size ∧ s₁ = { s with heap := s.heap.push { cls := .type "set", dict := none, data := .set #[] 0 (.fresh 0 0 (!w.params.followText "set-order")) } }) ⟨rfl, rfl⟩) fun r s₁ hr => ?_
  cases r with
  | error e => exact hr
  | ok fl =>
    cases fl with
    | ret obj =>
      obtain ⟨rfl, rfl⟩ := hr
      have hS : (s.heap.push ({ cls := .type "set", dict := none, data := .set #[] 0 (.fresh 0 0 (!w.params.followText "set-order")) } : Obj)).get? s.heap.objs.size = some ({ cls := .type "set", dict := none, data := .set #[] 0 (.fresh 0 0 (!w.params.followText "set-order")) } : Obj) := Heap.get?_push_size _ rfl
      have hT : Shared.TypeIs { s with heap := s.heap.push ({ cls := .type "set", dict := none, data := .set #[] 0 (.fresh 0 0 (!w.params.followText "set-order")) } : Obj) } (.ref s.heap.objs.size) "set" := ⟨_, hS, rfl⟩
      have hli := F.called_set.init.lookup
      have hbi := F.called_set.init.bind (.ref s.heap.objs.size)
      repeat (any_goals (first | assumption | wp_step))
      refine codeAny_mono (codeAny_call_builtin (R := wants (fun r s₂ => r = .none ∧ ∃ h' tk, s₂ = { s with heap := h', toks := tk } ∧ SetM w h' s.heap.objs.size (fun j => j ∈ ks) ks.length ∧
          (∀ b o, s.heap.get? b = some o → h'.get? b = some o)) E) F.called_set.init.plain F.entry_set_init (check_set_init_1 hT ?_)) fun r₂ s₂ hr₂ => ?_
      · obtain ⟨ol, hol, hcl, nl, hdl⟩ := hl
        obtain ⟨ocls, odict, odata, oslots⟩ := ol
        simp only at hcl hdl
        subst hcl; subst hdl
        have hol' : (s.heap.push ({ cls := .type "set", dict := none, data := .set #[] 0 (.fresh 0 0 (!w.params.followText "set-order")) } : Obj)).get? l = some { cls := .type "list", dict := odict, data := .seq items nl, slots := oslots } := Heap.get?_push_of_some _ hol
        have hsls := F.sub_list_set
        have hslf := F.sub_list_frozenset
        have hne : (Value.type "list" == Value.type "dict") = false := by decide
        have hl1 : (s.heap.push ({ cls := .type "set", dict := none, data := .set #[] 0 (.fresh 0 0 (!w.params.followText "set-order")) } : Obj)).IsList l items := ⟨_, hol', rfl, nl, rfl⟩
        unfold Builtin.«set.__init__» noKeywords Builtin.Frozenset.updateFrom
        generalize hPI : pyIter = PI
        wp_walk
        subst hPI
        refine wpAny_pyIter_list hl1 ?_
        refine wpAny_bind (wpAny_runValue ?_)
        have hlS : l < s.heap.objs.size := Heap.lt_size hol
        have hh3 : A.in1.in1.in1.handled = none := by simp [hh]
        have hneI : l ≠ (s.heap.push ({ cls := .type "set", dict := none, data := .set #[] 0 (.fresh 0 0 (!w.params.followText "set-order")) } : Obj)).objs.size := by
          rw [Heap.size_push]; exact Nat.ne_of_lt (Nat.lt_succ_of_lt hlS)
        have hSf : s.heap.objs.size ∉ [(s.heap.push ({ cls := .type "set", dict := none, data := .set #[] 0 (.fresh 0 0 (!w.params.followText "set-order")) } : Obj)).objs.size, l] := by
          rw [Heap.size_push]; simp only [List.mem_cons, List.mem_singleton, List.not_mem_nil, or_false, not_or]
          exact ⟨Nat.ne_of_lt (Nat.lt_succ_self _), Nat.ne_of_gt hlS⟩
        refine setM_update ((Walks.list hh3 _ l hneI items).toS) s.heap.objs.size
          hSf ks hsz hb hit (items.size - 0) 0 _ (by omega) (Nat.zero_le _)
          ⟨⟨_, Heap.get?_push_size _ rfl, rfl, rfl⟩, (hl1.push _)⟩ ?hS0 ?hR
        case hS0 =>
          have hget : ((s.heap.push ({ cls := .type "set", dict := none, data := .set #[] 0 (.fresh 0 0 (!w.params.followText "set-order")) } : Obj)).push { cls := .type "list_iterator", data := .fields #[.ref l, .int 0 0] }).get? s.heap.objs.size = some ({ cls := .type "set", dict := none, data := .set #[] 0 (.fresh 0 0 (!w.params.followText "set-order")) } : Obj) := Heap.get?_push_of_some _ hS
          exact (setM_fresh hget).congr (fun _ => by simp) (Nat.le_refl _)
        case hR =>
          intro s' hm hS'
          obtain ⟨h', g2, d', tk', os'⟩ := s'
          have eg : g2 = s.gens := hm.gens
          have ed : d' = s.drawn := hm.drawn
          have eo : os' = s.os := hm.os
          subst eg; subst ed; subst eo
          show wpAny _ _ _ _ _ _
          refine wpAny_pure ?_
          show wpAny _ _ (ret Value.none) _ _ _
          rw [hsz] at hS'
          refine wpAny_pure ⟨rfl, h', tk', rfl, hS', fun b o e => ?_⟩
          have hb0 : b < s.heap.objs.size := Heap.lt_size e
          have hb1 : b ≠ s.heap.objs.size := Nat.ne_of_lt hb0
          have hb2 : b ≠ (s.heap.push ({ cls := .type "set", dict := none, data := .set #[] 0 (.fresh 0 0 (!w.params.followText "set-order")) } : Obj)).objs.size := by
            rw [Heap.size_push]; exact Nat.ne_of_lt (Nat.lt_succ_of_lt hb0)
          exact hm.heap b o (by simp only [List.mem_cons, List.mem_singleton, List.not_mem_nil, or_false, not_or]; exact ⟨hb1, hb2⟩) (Heap.get?_push_of_some _ (Heap.get?_push_of_some _ e))
      · cases r₂ with
        | error e => exact hr₂
        | ok fl₂ =>
          cases fl₂ with
          | ret r =>
            obtain ⟨rfl, h', tk, rfl, hS', hk'⟩ := hr₂
            repeat (any_goals (first | assumption | wp_step))
            exact h _ _ hS' hk'
          | _ => exact hr₂.elim
    | _ => exact hr.elim
end
end Dl

namespace Dl
open PySem L2 PyProof.Rows PySem.Spec

/-! ## sorted(set(xs)), len(set(xs)): xs whole numbers and texts -/
def kD : Key → D
  | .inl i => .int i
  | .inr x => .str x
theorem kD_inj {a b : Key} (h : kD a = kD b) : a = b := by
  cases a <;> cases b <;> simp [kD] at h <;> simp [h]
theorem Srt.sub {xs ys : List D} (S : Srt xs) (h : ∀ d ∈ ys, d ∈ xs) : Srt ys where
  kind := by
    rcases S.kind with k | k | k | k | k
    · exact .inl fun d hd => k d (h d hd)
    · exact .inr (.inl fun d hd => k d (h d hd))
    · exact .inr (.inr (.inl fun d hd => k d (h d hd)))
    · exact .inr (.inr (.inr (.inl fun d hd => k d (h d hd))))
    · exact .inr (.inr (.inr (.inr fun d hd => k d (h d hd))))
  plain := fun d hd => S.plain d (h d hd)
  cmp := fun d hd c hc => S.cmp d (h d hd) c (h c hc)
/-- the items, each as one of the keys -/
theorem keys_items {K : PySem.W.Frag} {ρ : List Addr} {H : Hp} : ∀ {ks : List Key} {vs : List V} {us : List Value}, VRs K ρ H (ks.map kD) vs → Vals vs us → us.length = ks.length ∧ ∀ (i : Nat) (u : Value), us[i]? = some u → ∃ k, ks[i]? = some k ∧ keyIs k u = true
  | [], vs, us, h, r => by
    rw [List.map_nil] at h
    unfold VRs at h
    subst h
    cases r
    exact ⟨rfl, fun i u e => by simp at e⟩
  | k :: ks, vs, us, h, r => by
    rw [List.map_cons] at h
    unfold VRs at h
    obtain ⟨v, vr, rfl, g1, g2⟩ := h
    cases r with
    | cons r1 r2 =>
    rename_i u ur
    obtain ⟨h1, h2⟩ := keys_items g2 r2
    refine ⟨by simp [h1], fun i w e => ?_⟩
    cases i with
    | zero =>
      simp at e
      subst e
      refine ⟨k, rfl, ?_⟩
      cases k with
      | inl n =>
        have e1 : v = V.int n := g1
        subst e1
        obtain ⟨t, e2⟩ := (show ∃ t, u = Value.int n t from r1)
        rw [e2]; exact keyIs_int _ _
      | inr x =>
        have e1 : v = V.str x := g1
        subst e1
        obtain ⟨t, e2⟩ := (show ∃ t, u = Value.str x t from r1)
        rw [e2]; exact keyIs_str _ _
    | succ i => exact h2 i w (by simpa using e)
theorem key_plV {h : Heap} {k : Key} {u : Value} (e : keyIs k u = true) : PlV h (kD k) u := by
  rcases keyIs_shape e with ⟨i, t, rfl, rfl⟩ | ⟨x, t, rfl, rfl⟩
  · exact .int
  · exact .str
/-- scalars, as values of the store -/
theorem keys_vrs {K : PySem.W.Frag} {ρ : List Addr} {H : Hp} {h : Heap} : ∀ {us : List Value}, (∀ u ∈ us, ∃ k, keyIs k u = true) → ∃ vs, VRs K ρ H (us.map (rdV h)) vs ∧ Vals vs us
  | [], _ => ⟨[], .nil, .nil⟩
  | u :: us, e => by
    obtain ⟨vs, h1, h2⟩ := keys_vrs (K := K) (ρ := ρ) (H := H) (h := h) (us := us) fun w hw => e w (List.mem_cons_of_mem _ hw)
    obtain ⟨k, hk⟩ := e u List.mem_cons_self
    have er := rdV_eq (key_plV (h := h) hk)
    rcases keyIs_shape hk with ⟨i, t, rfl, rfl⟩ | ⟨x, t, rfl, rfl⟩
    · refine ⟨V.int i :: vs, ?_, .cons ⟨t, rfl⟩ h2⟩
      rw [List.map_cons, er]
      exact .cons (show VR K ρ H (.int i) (V.int i) from rfl) h1
    · refine ⟨V.str x :: vs, ?_, .cons ⟨t, rfl⟩ h2⟩
      rw [List.map_cons, er]
      exact .cons (show VR K ρ H (.str x) (V.str x) from rfl) h1
def wSetSort (we : WE) : WE := fun τ S R => we τ S fun d S1 => ∃ (ks : List Key) (p : List D × (Sto → Prop)), lstD S1 d = some p ∧ p.1 = ks.map kD ∧ ks.length ≤ 4000 ∧ Srt (ks.map kD) ∧ ∀ ys, ys.Pairwise (fun a b => ltT a b = true) → (∀ x, x ∈ ys ↔ x ∈ ks.map kD) → R (.loc S1.length) (S1 ++ [.lst ys])
def wSetLen (we : WE) : WE := fun τ S R => we τ S fun d S1 => ∃ (ks : List Key) (p : List D × (Sto → Prop)), lstD S1 d = some p ∧ p.1 = ks.map kD ∧ ks.length ≤ 4000 ∧ ∀ zs : List Key, zs.Nodup → (∀ k, k ∈ zs ↔ k ∈ ks) → R (.int (zs.length : Nat)) S1
section
variable {X : Cx} {a : Expr} {we : WE} {p p2 q pos : Pos}
theorem set_made {pins : List (Addr × Obj)} {σ : L2.St} {H : Hp} {s : Shared} {ρ : List Addr} {S : Sto} {A : Around} {E : Value → Shared → Prop} {d : D} {v : V} {u : Value} {ks : List Key} {pr : List D × (Sto → Prop)} {Q : Value → Shared → Prop}
    (hh : A.handled = none) (I : L2.Inv X pins σ H s) (W : XW X ρ S H) (r : VR X.K ρ H d v) (ru : RelV v u) (e : lstD S d = some pr) (ek : pr.1 = ks.map kD) (hl : ks.length ≤ 4000)
    (h : ∀ h' tk o es ep t, (∀ b o, s.heap.get? b = some o → h'.get? b = some o) → h'.get? s.heap.objs.size = some o → o.ExactSet → o.data = .set es ep t → TbM X.w es t (fun j => j ∈ ks) → es.size ≤ ks.length → Q (.ref s.heap.objs.size) { s with heap := h', toks := tk }) :
    wpAny (model X.prog X.w) A (call (.type "set") [u]) Q E s := by
  obtain ⟨l, vs, rfl, hq, hv, _⟩ := lstD_ok W r e
  cases (show u = Value.ref l from ru)
  obtain ⟨its, rv, pl, hz⟩ := I.list hq
  rw [ek] at hv
  obtain ⟨k1, k2⟩ := keys_items hv rv
  refine call_setM ks hh (show s.heap.IsList l its.toArray from pl.isList) (by simpa using k1) (fun i w e => k2 i w (by simpa using e)) (by unfold scanBound; omega) fun h' tk M hk => ?_
  obtain ⟨o, es, ep, t, ho, hex, hd, T, hn⟩ := M
  exact h h' tk o es ep t hk ho hex hd T hn
theorem de_setLen (hc : X.calm = true) (hg : Gl X "len") (hm : X.mg "len" = none) (hg2 : Gl X "set") (hm2 : X.mg "set" = none) (ha : PE X a (dE X we))
    (na : starEach [a] X.env = (false, eval a X.env) :: starEach [] X.env := by rfl) : PE X (.Call (.Name "len" p) [.Call (.Name "set" p2) [a] [] q] [] pos) (dE X (wSetLen we)) := by
  refine ⟨fun pins s σ H Q I ⟨ρ, τ, S, R, W, er, h, pe⟩ => ?_⟩
  refine Call_ (ld_blt I hg hm boot_len ?_)
  refine PyProof.Rows.callWith_builtin1 (PyProof.Rows.args_cons ?_ rfl) rfl rfl
  refine Call_ (ld_blt I hg2 hm2 boot_set ?_)
  refine PyProof.Rows.callWith_type1 (PyProof.Rows.args_cons (thn (ha.run pins s σ H (fun x H1 => ∃ (ρ1 : List Addr) (S1 : Sto) (d : D) (ks : List Key) (pr : List D × (Sto → Prop)), Ext ρ H ρ1 H1 ∧ XW X ρ1 S1 H1 ∧ VR X.K ρ1 H1 d x ∧ lstD S1 d = some pr ∧ pr.1 = ks.map kD ∧ ks.length ≤ 4000 ∧ ∀ zs : List Key, zs.Nodup → (∀ k, k ∈ zs ↔ k ∈ ks) → R (.int (zs.length : Nat)) S1) I
    ⟨ρ, τ, S, _, W, er, h, fun d S1 ⟨ks, pr, e1, e2, e3, e4⟩ ρ1 H1 x y W1 r => ⟨ρ1, S1, d, ks, pr, y, W1, r, e1, e2, e3, e4⟩⟩) fun v s1 ⟨x, H1, I1, r1, q1⟩ => PyProof.Rows.args_nil ?_) na) na rfl
  obtain ⟨ρ1, S1, d, ks, pr, y, W1, r, e1, e2, e3, e4⟩ := q1
  refine set_made (I1.ok.hd hc) I1 W1 r r1 e1 e2 e3 fun h' tk o es ep t hk ho hex hd T hn => ?_
  refine PyProof.Rows.args_nil ?_
  have I2 : L2.Inv X pins σ H1 { s1 with heap := h', toks := tk } := I1.kept hk
  refine call_len_set ho hex hd T.fits (by have := T.bd; unfold scanBound at this; omega) ⟨.int es.size, H1, I2.tok _, ⟨_, rfl⟩, ?_⟩
  have := e4 (es.toList.map vKey) T.nd fun k => (T.mem k).symm
  rw [List.length_map, Array.length_toList] at this
  exact pe _ _ this ρ1 H1 _ y W1 (show VR X.K ρ1 H1 (.int es.size) (V.int es.size) from rfl)
theorem de_setSort (hc : X.calm = true) (hu : X.A.units + 150 < cLine) (hg : Gl X "sorted") (hm : X.mg "sorted" = none) (hg2 : Gl X "set") (hm2 : X.mg "set" = none) (ha : PE X a (dE X we))
    (na : starEach [a] X.env = (false, eval a X.env) :: starEach [] X.env := by rfl) : PE X (.Call (.Name "sorted" p) [.Call (.Name "set" p2) [a] [] q] [] pos) (dE X (wSetSort we)) := by
  refine ⟨fun pins s σ H Q I ⟨ρ, τ, S, R, W, er, h, pe⟩ => ?_⟩
  refine Call_ (ld_blt I hg hm boot_sorted ?_)
  refine PyProof.Rows.callWith_builtin1 (PyProof.Rows.args_cons ?_ rfl) rfl rfl
  refine Call_ (ld_blt I hg2 hm2 boot_set ?_)
  refine PyProof.Rows.callWith_type1 (PyProof.Rows.args_cons (thn (ha.run pins s σ H (fun x H1 => ∃ (ρ1 : List Addr) (S1 : Sto) (d : D) (ks : List Key) (pr : List D × (Sto → Prop)), Ext ρ H ρ1 H1 ∧ XW X ρ1 S1 H1 ∧ VR X.K ρ1 H1 d x ∧ lstD S1 d = some pr ∧ pr.1 = ks.map kD ∧ ks.length ≤ 4000 ∧ Srt (ks.map kD) ∧ ∀ ys, ys.Pairwise (fun a b => ltT a b = true) → (∀ x, x ∈ ys ↔ x ∈ ks.map kD) → R (.loc S1.length) (S1 ++ [.lst ys])) I
    ⟨ρ, τ, S, _, W, er, h, fun d S1 ⟨ks, pr, e1, e2, e3, e4⟩ ρ1 H1 x y W1 r => ⟨ρ1, S1, d, ks, pr, y, W1, r, e1, e2, e3, e4⟩⟩) fun v s1 ⟨x, H1, I1, r1, q1⟩ => PyProof.Rows.args_nil ?_) na) na rfl
  obtain ⟨ρ1, S1, d, ks, pr, y, W1, r, e1, e2, e3, hS, e4⟩ := q1
  refine set_made (I1.ok.hd hc) I1 W1 r r1 e1 e2 e3 fun h' tk o es ep t hk ho hex hd T hn => ?_
  refine PyProof.Rows.args_nil ?_
  have I2 : L2.Inv X pins σ H1 { s1 with heap := h', toks := tk } := I1.kept hk
  refine Calls.call_function_entry kind_sorted plain_sorted entry_sorted (args_sorted1 _) ?_
  unfold Builtin.«sorted»
  refine wpAny_bind (m := checkCount "sorted" 1 1 _) (wpAny_pure ?_)
  refine wpAny_bind (collect_set (s := { s1 with heap := h', toks := tk }) (A := X.A.in1) (I1.ok.hd hc) ⟨o, ho, hex.1, hd⟩ T.fits T.bd T.ris T.led fun s2 ws k1 hz g1 o1 pm => ?_)
  have I3 : L2.Inv X pins σ H1 s2 := I2.call' (ch := []) o1 (Un.kept k1) (I2.hok.kept k1) (by rw [g1]; exact I2.bare) (fun _ z => nomatch z)
  have hlen : ws.length = es.size := by rw [pm.length_eq, List.length_map, Array.length_toList]
  have hwz : ws.length ≤ sizeLine := by have := sizeLine_eq; omega
  refine wpAny_bind (wpAny_newList ?_ hwz)
  have hoL : (s2.heap.push (seqObj "list" ws.toArray 0)).get? s2.heap.objs.size = some (seqObj "list" ws.toArray 0) := Heap.get?_push_size _ rfl
  have hkey : ∀ u ∈ ws, ∃ k, keyIs k u = true ∧ k ∈ ks := fun u hu => by
    obtain ⟨e, he, rfl⟩ := List.mem_map.mp (pm.mem_iff.mp hu)
    have g := T.good e he
    refine ⟨vKey e, (vKey_is g _).mpr rfl, (T.mem _).mpr (List.mem_map_of_mem he)⟩
  generalize hh2 : s2.heap.push (seqObj "list" ws.toArray 0) = h2 at hoL ⊢
  have rdk : ∀ {u : Value} {k : Key}, keyIs k u = true → rdV h2 u = kD k := fun e => rdV_eq (key_plV e)
  have hS2 : Srt (ws.map (rdV h2)) := hS.sub fun d hd => by
    obtain ⟨u, hu, rfl⟩ := List.mem_map.mp hd
    obtain ⟨k, hk1, hk2⟩ := hkey u hu
    rw [rdk hk1]
    exact List.mem_map_of_mem hk2
  have I4 : L2.Inv X pins σ H1 { s2 with heap := h2 } := I3.kept (fun b o e => by rw [← hh2]; exact Heap.get?_push_of_some _ e)
  show wpAny _ _ _ _ _ { s2 with heap := h2 }
  refine wpAny_bind (wpAny_holding (wpAny_call_entry slot_list_sort ⟨_, hoL, rfl⟩ entry_list_sort (SrtO.list_sort_ord (s := { s2 with heap := h2 }) (swo_D (rdV_pure h2)) hoL hwz (fun h2' h3 keep => ?_) fun out hs hb => ⟨_, rfl, ?_⟩) (args_list_sort _)))
  · exact srt_cmp (s := { s2 with heap := h3 }) hS2 (fun u hm => by
      obtain ⟨k, hk1, _⟩ := hkey u hm
      rw [rdk hk1]
      exact key_plV hk1) (by show X.A.units + 1 + 1 + 100 < cLine; omega) h2'
  · obtain ⟨vs', q1, q2⟩ := keys_vrs (K := X.K) (ρ := ρ1) (H := H1) (h := h2) (us := out) fun u hu => let ⟨k, hk1, _⟩ := hkey u (hb.perm.mem_iff.mp hu); ⟨k, hk1⟩
    obtain ⟨e', he'⟩ := sortedHeap_at (vs := ws) (out := out.toArray) hoL
    have hlen2 : vs'.length ≤ sizeLine := by rw [q2.length, hb.perm.length_eq]; exact hwz
    have hn2 := I3.hok.fresh (Nat.le_refl s2.heap.objs.size)
    refine wpAny_pure ⟨_, rfl, .ref s2.heap.objs.size, upd H1 s2.heap.objs.size (.lst vs'), I3.laid (t' := s2.toks) (fun b u e => ?_) (Nat.le_refl _) ⟨hlen2, out, e', q2, he'⟩, rfl, ?_⟩
    · have hb : b < s2.heap.objs.size := Heap.lt_size e
      rw [sortedHeap_old (Nat.ne_of_lt hb) (by rw [← hh2, size_push']; exact Nat.lt_succ_of_lt hb), ← hh2]
      exact Heap.get?_push_of_some _ e
    · have keysOut : out.Perm (es.toList.map (·.2)) := hb.perm.trans pm
      have mem : ∀ x, x ∈ out.map (rdV h2) ↔ x ∈ ks.map kD := fun x => by
        constructor
        · intro hx
          obtain ⟨u, hu, rfl⟩ := List.mem_map.mp hx
          obtain ⟨k, hk1, hk2⟩ := hkey u (hb.perm.mem_iff.mp hu)
          rw [rdk hk1]
          exact List.mem_map_of_mem hk2
        · intro hx
          obtain ⟨k, hk, rfl⟩ := List.mem_map.mp hx
          obtain ⟨e, he, ee⟩ := List.mem_map.mp ((T.mem k).mp hk)
          have g := (vKey_is (T.good e he) k).mpr ee
          rw [← rdk g]
          exact List.mem_map_of_mem (keysOut.mem_iff.mpr (List.mem_map_of_mem he))
      have nd : (out.map (rdV h2)).Nodup := by
        have e1 : (es.toList.map (·.2)).map (rdV h2) = (es.toList.map vKey).map kD := by
          rw [List.map_map, List.map_map]
          exact List.map_congr_left fun e he => rdk ((vKey_is (T.good e he) _).mpr rfl)
        rw [(keysOut.map (rdV h2)).nodup_iff, e1]
        exact List.pairwise_map.mpr (List.Pairwise.imp (fun h e => h (kD_inj e)) T.nd)
      refine new_lst W1 q1 (e4 _ ?_ mem) (pe.ext W1 y) hn2
      have pw : (out.map (rdV h2)).Pairwise fun a b => ltT b a = false := List.pairwise_map.mpr (hs.imp fun h => h)
      refine (pw.and nd).imp_of_mem fun {a b} ha hb' ⟨g1, g2⟩ => ?_
      obtain ⟨u, hu, rfl⟩ := List.mem_map.mp ha
      obtain ⟨w, hw, rfl⟩ := List.mem_map.mp hb'
      cases g : ltT (rdV h2 u) (rdV h2 w) with
      | true => rfl
      | false => exact absurd (ltT_tri (rdV_pure h2 u) (rdV_pure h2 w) g g1) g2
end
section
variable {τ : DEnv} {S : Sto} {R : DQ} {we : WE}
@[simp ↓] theorem wSetSort_ap : wSetSort we τ S R = we τ S fun d S1 => ∃ (ks : List Key) (p : List D × (Sto → Prop)), lstD S1 d = some p ∧ p.1 = ks.map kD ∧ ks.length ≤ 4000 ∧ Srt (ks.map kD) ∧ ∀ ys, ys.Pairwise (fun a b => ltT a b = true) → (∀ x, x ∈ ys ↔ x ∈ ks.map kD) → R (.loc S1.length) (S1 ++ [.lst ys]) := rfl
@[simp ↓] theorem wSetLen_ap : wSetLen we τ S R = we τ S fun d S1 => ∃ (ks : List Key) (p : List D × (Sto → Prop)), lstD S1 d = some p ∧ p.1 = ks.map kD ∧ ks.length ≤ 4000 ∧ ∀ zs : List Key, zs.Nodup → (∀ k, k ∈ zs ↔ k ∈ ks) → R (.int (zs.length : Nat)) S1 := rfl
end
end Dl

namespace Dl
open PySem L2 PyProof.Rows PySem.Spec

/-! ## dict(zip(xs, ys)): xs texts -/
/-- pairs, put one by one -/
noncomputable def zipP (acc : List (D × D)) (l : List (Str × D)) : List (D × D) := l.foldl (fun acc p => putP acc (.str p.1) p.2) acc
section
variable {X : Cx} {pins : List (Addr × Obj)} {σ : L2.St} {H : Hp} {s : Shared} {ρ : List Addr} {S : Sto}
theorem tx_get : ∀ {kvs : List (D × D)} {qs : List (Str × Value)} {x : Str}, Paired (TxE X ρ H) kvs qs → (getP kvs (.str x)).isSome = qs.any fun q => decide (q.1 = x)
  | _, _, x, .nil => by simp [getP]
  | p :: kvs, q :: qs, x, .cons r t => by
    have ih := tx_get (x := x) t
    unfold getP at ih ⊢
    rw [List.find?_cons, List.any_cons]
    have e : (p.1 = D.str x) ↔ q.1 = x := by rw [r.1]; simp
    by_cases h : q.1 = x
    · simp [e.mpr h, h]
    · have h2 : ¬ p.1 = D.str x := fun z => h (e.mp z)
      simp only [h, h2, decide_false, Bool.false_or]
      exact ih
theorem tx_map {x : Str} {d : D} {v : Value} {dv : V} (h1 : VR X.K ρ H d dv) (h2 : RelV dv v) : ∀ {kvs : List (D × D)} {qs : List (Str × Value)}, Paired (TxE X ρ H) kvs qs → Paired (TxE X ρ H) (kvs.map fun p => if p.1 = D.str x then (p.1, d) else p) (qs.map fun q => if q.1 = x then (q.1, v) else q)
  | _, _, .nil => .nil
  | p :: kvs, q :: qs, .cons r t => by
    have ih := tx_map (x := x) h1 h2 t
    rw [List.map_cons, List.map_cons]
    refine .cons ?_ ih
    have e : (p.1 = D.str x) ↔ q.1 = x := by rw [r.1]; simp
    by_cases h : q.1 = x
    · rw [if_pos (e.mpr h), if_pos h]
      exact ⟨r.1, dv, h1, h2⟩
    · rw [if_neg (fun z => h (e.mp z)), if_neg h]
      exact r
theorem paired_app {α β : Type} {F : α → β → Prop} {a : α} {b : β} (h : F a b) : ∀ {as : List α} {bs : List β}, Paired F as bs → Paired F (as ++ [a]) (bs ++ [b])
  | _, _, .nil => .cons h .nil
  | _, _, .cons r t => .cons r (paired_app h t)
theorem tx_put {x : Str} {d : D} {v : Value} {dv : V} {kvs : List (D × D)} {qs : List (Str × Value)} (t : Paired (TxE X ρ H) kvs qs) (h1 : VR X.K ρ H d dv) (h2 : RelV dv v) : Paired (TxE X ρ H) (putP kvs (.str x) d) (PySem.stored qs x v) := by
  unfold putP PySem.stored
  rw [tx_get t]
  by_cases c : (qs.any fun q => decide (q.1 = x)) = true
  · rw [if_pos c, if_pos c]
    exact tx_map h1 h2 t
  · rw [if_neg c, if_neg c]
    exact paired_app ⟨rfl, dv, h1, h2⟩ t
/-- the machine's pairs -/
theorem tx_zip : ∀ {ws : List Str} {ds : List D} {vs : List V} {us : List Value} {kvs : List (D × D)} {qs : List (Str × Value)}, Paired (TxE X ρ H) kvs qs → VRs X.K ρ H ds vs → Vals vs us → Paired (TxE X ρ H) (zipP kvs (ws.zip ds)) (PySem.merged qs (ws.zip us))
  | [], ds, vs, us, kvs, qs, t, _, _ => by simpa [zipP, PySem.merged] using t
  | w :: ws, [], vs, us, kvs, qs, t, h, r => by
    unfold VRs at h
    subst h
    cases r
    simpa [zipP, PySem.merged] using t
  | w :: ws, d :: ds, vs, us, kvs, qs, t, h, r => by
    unfold VRs at h
    obtain ⟨v, vr, rfl, g1, g2⟩ := h
    cases r with
    | cons r1 r2 =>
      have := tx_zip (ws := ws) (tx_put (x := w) t g1 r1) g2 r2
      simpa [zipP, PySem.merged] using this
theorem merged_len {K : Type} [DecidableEq K] : ∀ (l acc : List (K × Value)), (PySem.merged acc l).length ≤ acc.length + l.length
  | [], acc => by simp [PySem.merged]
  | p :: l, acc => by
    have := merged_len l (PySem.stored acc p.1 p.2)
    have h2 : (PySem.stored acc p.1 p.2).length ≤ acc.length + 1 := by unfold PySem.stored; split <;> simp
    unfold PySem.merged at this ⊢
    simp only [List.foldl_cons, List.length_cons] at this ⊢
    omega
end
def wDictZip (wr : WA) : WE := fun τ S R => wr τ S fun ds S1 => ∃ (d1 d2 : D) (ws : List Str) (p1 p2 : List D × (Sto → Prop)), ds = [d1, d2] ∧ lstD S1 d1 = some p1 ∧ p1.1 = ws.map D.str ∧ lstD S1 d2 = some p2 ∧ ∀ ep, R (.loc S1.length) (S1 ++ [.dct ep (zipP [] (ws.zip p2.1))])
section
variable {X : Cx} {e e2 : Expr} {wr : WA} {p p2 q pos : Pos}
theorem de_dictZip (hc : X.calm = true) (hg : Gl X "dict") (hm : X.mg "dict" = none) (hg2 : Gl X "zip") (hm2 : X.mg "zip" = none) (ha : PA X [e, e2] (dA X wr))
    (hs : starEach [e, e2] X.env = (false, eval e X.env) :: starEach [e2] X.env := by rfl) (hpl : (backTo q (starEach [e2] X.env)).any (·.1) = false := by rfl) :
    PE X (.Call (.Name "dict" p) [.Call (.Name "zip" p2) [e, e2] [] q] [] pos) (dE X (wDictZip wr)) := by
  refine ⟨fun pins s σ H Q I ⟨ρ, τ, S, R, W, er, h, pe⟩ => ?_⟩
  refine Call_ (ld_blt I hg hm PyProof.Rows.boot_dict ?_)
  refine PyProof.Rows.callWith_type1 (PyProof.Rows.args_cons ?_ rfl) rfl rfl
  refine Call_ (ld_blt I hg2 hm2 PyProof.Rows.boot_zip (PyProof.Rows.callWith_type1 (thn (ha.run q pins s σ H (fun xs H1 => ∃ (ρ1 : List Addr) (S1 : Sto) (d1 d2 : D) (ws : List Str) (p1 p2 : List D × (Sto → Prop)), Ext ρ H ρ1 H1 ∧ XW X ρ1 S1 H1 ∧ VRs X.K ρ1 H1 [d1, d2] xs ∧ lstD S1 d1 = some p1 ∧ p1.1 = ws.map D.str ∧ lstD S1 d2 = some p2 ∧ ∀ ep, R (.loc S1.length) (S1 ++ [.dct ep (zipP [] (ws.zip p2.1))])) I
    ⟨ρ, τ, S, _, W, er, h, fun ds S1 ⟨d1, d2, ws, p1, p2, e0, e1, e2, e3, e4⟩ ρ1 H1 xs y W1 r => ⟨ρ1, S1, d1, d2, ws, p1, p2, y, W1, e0 ▸ r, e1, e2, e3, e4⟩⟩) fun us s1 ⟨xs, H1, I1, r1, q1⟩ => ?_) hs hpl))
  obtain ⟨ρ1, S1, d1, d2, ws, pr1, pr2, y, W1, r, e1, e2, e3, e4⟩ := q1
  obtain ⟨x1, x2, rfl, rv1, rv2⟩ := r.two_of
  obtain ⟨u1, u2, rfl, ru1, ru2⟩ := vals2 r1
  obtain ⟨a, vs1, rfl, hq1, hv1, _⟩ := lstD_ok W1 rv1 e1
  obtain ⟨b, vs2, rfl, hq2, hv2, _⟩ := lstD_ok W1 rv2 e3
  cases (show u1 = Value.ref a from ru1)
  cases (show u2 = Value.ref b from ru2)
  obtain ⟨its, rx, p1, hz1⟩ := I1.list hq1
  obtain ⟨its2, ry, p2, hz2⟩ := I1.list hq2
  have la : a < s1.heap.objs.size := p1.lt
  have lb : b < s1.heap.objs.size := p2.lt
  refine call_zip_2 p1.isList p2.isList fun h' hz hTI hTO h1 h2 hsz hk => ?_
  refine PyProof.Rows.args_nil ?_
  rw [e2] at hv1
  -- the texts
  have keys : ∀ {ws : List Str} {vs : List V} {us : List Value}, VRs X.K ρ1 H1 (ws.map D.str) vs → Vals vs us → us.length = ws.length ∧ ∀ (i : Nat) (u : Value), us[i]? = some u → ∃ w, ws[i]? = some w ∧ (strKind X.prog X.w).is w u = true := by
    intro ws
    induction ws with
    | nil =>
      intro vs us h r
      rw [List.map_nil] at h
      unfold VRs at h
      subst h
      cases r
      exact ⟨rfl, fun i u e => by simp at e⟩
    | cons w ws ih =>
      intro vs us h r
      rw [List.map_cons] at h
      unfold VRs at h
      obtain ⟨v, vr, rfl, g1, g2⟩ := h
      cases r with
      | cons r1 r2 =>
      rename_i u ur
      obtain ⟨h1, h2⟩ := ih g2 r2
      refine ⟨by simp [h1], fun i z e => ?_⟩
      cases i with
      | zero =>
        simp at e
        subst e
        have e1 : v = V.str w := g1
        subst e1
        obtain ⟨t, e2⟩ := (show ∃ t, u = Value.str w t from r1)
        refine ⟨w, rfl, ?_⟩
        rw [e2]
        show Value.isStrOf w (Value.str w t) = true
        simp [Value.isStrOf]
      | succ i => exact h2 i z (by simpa using e)
  obtain ⟨k1, k2⟩ := keys hv1 rx
  have hlen : (ws.zip its2).length = min its.toArray.size its2.toArray.size := by simp [k1]
  refine call_dict_pairs (knd := strKind X.prog X.w) (kvs := ws.zip its2) (PairArg.zip _ _ _ _ _ _ _ (PySem.W.ktu_apart s1.heap.objs.size a b la lb) its.toArray its2.toArray) (I1.ok.hd hc)
    ⟨hz, hTI, ⟨_, _, hTO⟩, h1, h2, p1.isList.at fun o e => hk _ o e, p2.isList.at fun o e => hk _ o e⟩ ⟨hlen, fun i key v ⟨g1, g2⟩ => ?_⟩ ?_ fun h'' tk hd hkk => ?_
  · obtain ⟨w, hw, hi⟩ := k2 i key (by simpa using g1)
    refine ⟨w, ?_, hi⟩
    rw [List.getElem?_zip_eq_some]
    exact ⟨hw, by simpa using g2⟩
  · have : its2.toArray.size ≤ sizeLine := by have := ry.length; simp; omega
    omega
  obtain ⟨o, es, ep', ho, hx, hdat, hks, hpr, hnd⟩ := hd
  have hob : DictObj h'.objs.size es ep' h'' := ⟨o, ho, hx, hdat⟩
  have keep : ∀ b o, s1.heap.get? b = some o → h''.get? b = some o := fun b o e => hkk b o (by
    have := Heap.lt_size e
    simp only [List.mem_cons, List.not_mem_nil, or_false, not_or]
    refine ⟨?_, ?_, ?_, ?_⟩ <;> exact (by intro z; rw [z] at this; exact absurd this (by first | exact Nat.lt_irrefl _ | (refine Nat.not_lt.mpr (Nat.le_add_right _ _))))) (hk b o e)
  have hsz' : s1.heap.objs.size ≤ h'.objs.size := by rw [hsz]; exact Nat.le_add_right _ _
  have I2 := I1.laid (a := h'.objs.size) (o := .ext (DictObj h'.objs.size es ep')) (h' := h'') (t' := tk) keep hsz' (ext_ok hob)
  have hn : H1 h'.objs.size = none := I1.hok.fresh hsz'
  refine ⟨.ref h'.objs.size, _, I2, rfl, ?_⟩
  have vx := (ext_alloc (ρ := ρ1) (u := .ext (DictObj h'.objs.size es ep')) hn).vx W1.sep
  have txp : Paired (TxE X ρ1 H1) (zipP [] (ws.zip pr2.1)) (PySem.merged [] (ws.zip its2)) := tx_zip .nil hv2 ry
  have hbig := I1.big
  have hml := merged_len (ws.zip its2) []
  have hzl : (zipP [] (ws.zip pr2.1)).length ≤ sizeLine := by
    have e5 : (zipP [] (ws.zip pr2.1)).length = (PySem.merged [] (ws.zip its2)).length := by have := congrArg List.length (txE_nodup txp); simpa using this
    have : its2.toArray.size ≤ sizeLine := by have := ry.length; simp; omega
    simp only [List.length_nil, Nat.zero_add] at hml
    omega
  have hsys : (h'.objs.size == sysModules) = false := beq_eq_false_iff_ne.mpr (Ne.symm (Nat.ne_of_lt (Nat.lt_of_lt_of_le hbig hsz')))
  have hnd2 : ((zipP [] (ws.zip pr2.1)).map fun p => keyOf p.1).Nodup := by
    rw [txE_nodup txp]
    have e6 : ((PySem.merged [] (ws.zip its2)).map fun q => some (NestedKey.text q.1)) = ((PySem.merged [] (ws.zip its2)).map (·.1)).map fun x => some (NestedKey.text x) := by rw [List.map_map]; rfl
    rw [e6]
    rw [List.nodup_iff_pairwise_ne, List.pairwise_map]
    exact (List.nodup_iff_pairwise_ne.mp hnd).imp fun ne e => ne (by cases e; rfl)
  refine pe _ _ (e4 ep') _ _ _ (y.trans W1.sep (ext_alloc hn)) (W1.alloc hn ⟨hsys, hzl, hnd2, es, upd_same, ?_⟩) (.loc (by rw [← W1.len]; exact List.getElem?_concat_length ..))
  refine Paired.mapP (tx_ent txp hpr fun e he => ?_) fun p e z => z.vx vx
  exact hks e (Array.mem_toList_iff.mp he)
end
section
variable {τ : DEnv} {S : Sto} {R : DQ} {wr : WA}
@[simp ↓] theorem wDictZip_ap : wDictZip wr τ S R = wr τ S fun ds S1 => ∃ (d1 d2 : D) (ws : List Str) (p1 p2 : List D × (Sto → Prop)), ds = [d1, d2] ∧ lstD S1 d1 = some p1 ∧ p1.1 = ws.map D.str ∧ lstD S1 d2 = some p2 ∧ ∀ ep, R (.loc S1.length) (S1 ++ [.dct ep (zipP [] (ws.zip p2.1))]) := rfl
end
end Dl

namespace Dl
open PySem L2 PyProof.Rows PySem.Spec

/-! ## set(t) of a tuple; dict(xs) of a list of pairs, keys whole numbers and texts -/
section
variable {P : Program} {w : World} {A : Around} {E : Value → Shared → Prop} {s : Shared} {a : Addr} {S : Key → Prop} {n : Nat}
/-- set(t), t a tuple -/
theorem call_setMT {l : Addr} {items : Array Value} (ks : List Key) {Q : Value → Shared → Prop} (hh : A.handled = none) (hl : s.heap.IsTuple l items) (hsz : items.size = ks.length) (hit : ∀ (i : Nat) (v : Value), items[i]? = some v → ∃ k, ks[i]? = some k ∧ keyIs k v = true) (hb : ks.length + 1 < scanBound)
    (h : ∀ (h' : Heap) (tk : Nat), SetM w h' s.heap.objs.size (fun j => j ∈ ks) ks.length → (∀ b o, s.heap.get? b = some o → h'.get? b = some o) → Q (.ref s.heap.objs.size) { s with heap := h', toks := tk }) :
    wpAny (model P w) A (call (.type "set") [.ref l]) Q E s := by
  obtain ⟨c, tl, hmro⟩ := F.called_set.mro
  have hmade := F.called_set.made
  have hsub := F.called_set.sub
  refine wpAny_call (codeAny_of_tree ?_)
  show wpAny _ _ (callAny (.type "set") _) _ _ _
  refine wpAny_pure ⟨Code.quiet_builtin _ (by decide +kernel), codeAny_builtin F.entry_type_call ?_⟩
  rw [Around.under_plain (weight_type_call_type "set" [.ref l] []) rfl]
  have h1 := F.called_set.notType
  have h2 := F.called_set.canCreate
  have hct := F.typeCall_set_1 (.ref l)
  repeat (any_goals (first | assumption | wp_step))
  refine codeAny_mono (code_set_led1 (.ref l) (E := E) (Q₁ := fun obj s₁ => obj = .ref s.heap.objs.size ∧ s₁ = { s with heap := s.heap.push { cls := .type "set", dict := none, data := .set #[] 0 (.fresh 0 0 (!w.params.followText "set-order")) } }) ⟨rfl, rfl⟩) fun r s₁ hr => ?_
  cases r with
  | error e => exact hr
  | ok fl =>
    cases fl with
    | ret obj =>
      obtain ⟨rfl, rfl⟩ := hr
      have hS : (s.heap.push ({ cls := .type "set", dict := none, data := .set #[] 0 (.fresh 0 0 (!w.params.followText "set-order")) } : Obj)).get? s.heap.objs.size = some ({ cls := .type "set", dict := none, data := .set #[] 0 (.fresh 0 0 (!w.params.followText "set-order")) } : Obj) := Heap.get?_push_size _ rfl
      have hT : Shared.TypeIs { s with heap := s.heap.push ({ cls := .type "set", dict := none, data := .set #[] 0 (.fresh 0 0 (!w.params.followText "set-order")) } : Obj) } (.ref s.heap.objs.size) "set" := ⟨_, hS, rfl⟩
      have hli := F.called_set.init.lookup
      have hbi := F.called_set.init.bind (.ref s.heap.objs.size)
      repeat (any_goals (first | assumption | wp_step))
      refine codeAny_mono (codeAny_call_builtin (R := wants (fun r s₂ => r = .none ∧ ∃ h' tk, s₂ = { s with heap := h', toks := tk } ∧ SetM w h' s.heap.objs.size (fun j => j ∈ ks) ks.length ∧
          (∀ b o, s.heap.get? b = some o → h'.get? b = some o)) E) F.called_set.init.plain F.entry_set_init (check_set_init_1 hT ?_)) fun r₂ s₂ hr₂ => ?_
      · obtain ⟨ol, hol, hcl, nl, hdl⟩ := hl
        obtain ⟨ocls, odict, odata, oslots⟩ := ol
        simp only at hcl hdl
        subst hcl; subst hdl
        have hol' : (s.heap.push ({ cls := .type "set", dict := none, data := .set #[] 0 (.fresh 0 0 (!w.params.followText "set-order")) } : Obj)).get? l = some { cls := .type "tuple", dict := odict, data := .seq items nl, slots := oslots } := Heap.get?_push_of_some _ hol
        have hsls := F.sub_tuple_set
        have hslf := F.sub_tuple_frozenset
        have hne : (Value.type "tuple" == Value.type "dict") = false := by decide
        have hl1 : (s.heap.push ({ cls := .type "set", dict := none, data := .set #[] 0 (.fresh 0 0 (!w.params.followText "set-order")) } : Obj)).IsTuple l items := ⟨_, hol', rfl, nl, rfl⟩
        unfold Builtin.«set.__init__» noKeywords Builtin.Frozenset.updateFrom
        generalize hPI : pyIter = PI
        wp_walk
        subst hPI
        refine wpAny_pyIter_tuple hl1 ?_
        refine wpAny_bind (wpAny_runValue ?_)
        have hlS : l < s.heap.objs.size := Heap.lt_size hol
        have hh3 : A.in1.in1.in1.handled = none := by simp [hh]
        have hneI : l ≠ (s.heap.push ({ cls := .type "set", dict := none, data := .set #[] 0 (.fresh 0 0 (!w.params.followText "set-order")) } : Obj)).objs.size := by
          rw [Heap.size_push]; exact Nat.ne_of_lt (Nat.lt_succ_of_lt hlS)
        have hSf : s.heap.objs.size ∉ [(s.heap.push ({ cls := .type "set", dict := none, data := .set #[] 0 (.fresh 0 0 (!w.params.followText "set-order")) } : Obj)).objs.size, l] := by
          rw [Heap.size_push]; simp only [List.mem_cons, List.mem_singleton, List.not_mem_nil, or_false, not_or]
          exact ⟨Nat.ne_of_lt (Nat.lt_succ_self _), Nat.ne_of_gt hlS⟩
        refine setM_update ((Walks.tuple hh3 _ l hneI items).toS) s.heap.objs.size
          hSf ks hsz hb hit (items.size - 0) 0 _ (by omega) (Nat.zero_le _)
          ⟨⟨_, Heap.get?_push_size _ rfl, rfl, rfl⟩, (hl1.push _)⟩ ?hS0 ?hR
        case hS0 =>
          have hget : ((s.heap.push ({ cls := .type "set", dict := none, data := .set #[] 0 (.fresh 0 0 (!w.params.followText "set-order")) } : Obj)).push { cls := .type "tuple_iterator", data := .fields #[.ref l, .int 0 0] }).get? s.heap.objs.size = some ({ cls := .type "set", dict := none, data := .set #[] 0 (.fresh 0 0 (!w.params.followText "set-order")) } : Obj) := Heap.get?_push_of_some _ hS
          exact (setM_fresh hget).congr (fun _ => by simp) (Nat.le_refl _)
        case hR =>
          intro s' hm hS'
          obtain ⟨h', g2, d', tk', os'⟩ := s'
          have eg : g2 = s.gens := hm.gens
          have ed : d' = s.drawn := hm.drawn
          have eo : os' = s.os := hm.os
          subst eg; subst ed; subst eo
          show wpAny _ _ _ _ _ _
          refine wpAny_pure ?_
          show wpAny _ _ (ret Value.none) _ _ _
          rw [hsz] at hS'
          refine wpAny_pure ⟨rfl, h', tk', rfl, hS', fun b o e => ?_⟩
          have hb0 : b < s.heap.objs.size := Heap.lt_size e
          have hb1 : b ≠ s.heap.objs.size := Nat.ne_of_lt hb0
          have hb2 : b ≠ (s.heap.push ({ cls := .type "set", dict := none, data := .set #[] 0 (.fresh 0 0 (!w.params.followText "set-order")) } : Obj)).objs.size := by
            rw [Heap.size_push]; exact Nat.ne_of_lt (Nat.lt_succ_of_lt hb0)
          exact hm.heap b o (by simp only [List.mem_cons, List.mem_singleton, List.not_mem_nil, or_false, not_or]; exact ⟨hb1, hb2⟩) (Heap.get?_push_of_some _ (Heap.get?_push_of_some _ e))
      · cases r₂ with
        | error e => exact hr₂
        | ok fl₂ =>
          cases fl₂ with
          | ret r =>
            obtain ⟨rfl, h', tk, rfl, hS', hk'⟩ := hr₂
            repeat (any_goals (first | assumption | wp_step))
            exact h _ _ hS' hk'
          | _ => exact hr₂.elim
    | _ => exact hr.elim
end
end Dl

namespace Dl
open PySem L2 PyProof.Rows PySem.Spec

/-! ## len(set(xs)), xs a list or a tuple; dict(xs), xs a list of pairs -/
def wSetLn (we : WE) : WE := fun τ S R => we τ S fun d S1 => ∃ (ks : List Key), seqD S1 d = some (ks.map kD) ∧ ks.length ≤ 4000 ∧ ∀ zs : List Key, zs.Nodup → (∀ k, k ∈ zs ↔ k ∈ ks) → R (.int (zs.length : Nat)) S1
section
variable {X : Cx} {a : Expr} {we : WE} {p p2 q pos : Pos}
theorem set_madeT {pins : List (Addr × Obj)} {σ : L2.St} {H : Hp} {s : Shared} {ρ : List Addr} {S : Sto} {A : Around} {E : Value → Shared → Prop} {d : D} {v : V} {u : Value} {ks : List Key} {Q : Value → Shared → Prop}
    (hh : A.handled = none) (I : L2.Inv X pins σ H s) (W : XW X ρ S H) (r : VR X.K ρ H d v) (ru : RelV v u) (e : seqD S d = some (ks.map kD)) (hl : ks.length ≤ 4000)
    (h : ∀ h' tk o es ep t, (∀ b o, s.heap.get? b = some o → h'.get? b = some o) → h'.get? s.heap.objs.size = some o → o.ExactSet → o.data = .set es ep t → TbM X.w es t (fun j => j ∈ ks) → es.size ≤ ks.length → Q (.ref s.heap.objs.size) { s with heap := h', toks := tk }) :
    wpAny (model X.prog X.w) A (call (.type "set") [u]) Q E s := by
  obtain ⟨l, vs, rfl, h1, hv⟩ := seqD_ok W r e
  cases (show u = Value.ref l from ru)
  rcases h1 with hq | hq
  · obtain ⟨its, rv, pl, hz⟩ := I.list hq
    obtain ⟨k1, k2⟩ := keys_items hv rv
    refine call_setM ks hh (show s.heap.IsList l its.toArray from pl.isList) (by simpa using k1) (fun i w e => k2 i w (by simpa using e)) (by unfold scanBound; omega) fun h' tk M hk => ?_
    obtain ⟨o, es, ep, t, ho, hex, hd, T, hn⟩ := M
    exact h h' tk o es ep t hk ho hex hd T hn
  · obtain ⟨its, rv, pl, hz⟩ := I.tuple hq
    obtain ⟨k1, k2⟩ := keys_items hv rv
    refine call_setMT ks hh (show s.heap.IsTuple l its.toArray from pl) (by simpa using k1) (fun i w e => k2 i w (by simpa using e)) (by unfold scanBound; omega) fun h' tk M hk => ?_
    obtain ⟨o, es, ep, t, ho, hex, hd, T, hn⟩ := M
    exact h h' tk o es ep t hk ho hex hd T hn
theorem de_setLn (hc : X.calm = true) (hg : Gl X "len") (hm : X.mg "len" = none) (hg2 : Gl X "set") (hm2 : X.mg "set" = none) (ha : PE X a (dE X we))
    (na : starEach [a] X.env = (false, eval a X.env) :: starEach [] X.env := by rfl) : PE X (.Call (.Name "len" p) [.Call (.Name "set" p2) [a] [] q] [] pos) (dE X (wSetLn we)) := by
  refine ⟨fun pins s σ H Q I ⟨ρ, τ, S, R, W, er, h, pe⟩ => ?_⟩
  refine Call_ (ld_blt I hg hm boot_len ?_)
  refine PyProof.Rows.callWith_builtin1 (PyProof.Rows.args_cons ?_ rfl) rfl rfl
  refine Call_ (ld_blt I hg2 hm2 boot_set ?_)
  refine PyProof.Rows.callWith_type1 (PyProof.Rows.args_cons (thn (ha.run pins s σ H (fun x H1 => ∃ (ρ1 : List Addr) (S1 : Sto) (d : D) (ks : List Key), Ext ρ H ρ1 H1 ∧ XW X ρ1 S1 H1 ∧ VR X.K ρ1 H1 d x ∧ seqD S1 d = some (ks.map kD) ∧ ks.length ≤ 4000 ∧ ∀ zs : List Key, zs.Nodup → (∀ k, k ∈ zs ↔ k ∈ ks) → R (.int (zs.length : Nat)) S1) I
    ⟨ρ, τ, S, _, W, er, h, fun d S1 ⟨ks, e1, e3, e4⟩ ρ1 H1 x y W1 r => ⟨ρ1, S1, d, ks, y, W1, r, e1, e3, e4⟩⟩) fun v s1 ⟨x, H1, I1, r1, q1⟩ => PyProof.Rows.args_nil ?_) na) na rfl
  obtain ⟨ρ1, S1, d, ks, y, W1, r, e1, e3, e4⟩ := q1
  refine set_madeT (I1.ok.hd hc) I1 W1 r r1 e1 e3 fun h' tk o es ep t hk ho hex hd T hn => ?_
  refine PyProof.Rows.args_nil ?_
  have I2 : L2.Inv X pins σ H1 { s1 with heap := h', toks := tk } := I1.kept hk
  refine call_len_set ho hex hd T.fits (by have := T.bd; unfold scanBound at this; omega) ⟨.int es.size, H1, I2.tok _, ⟨_, rfl⟩, ?_⟩
  have := e4 (es.toList.map vKey) T.nd fun k => (T.mem k).symm
  rw [List.length_map, Array.length_toList] at this
  exact pe _ _ this ρ1 H1 _ y W1 (show VR X.K ρ1 H1 (.int es.size) (V.int es.size) from rfl)
end
/-! ### pairs -/
/-- pairs, put one by one -/
noncomputable def zipK (acc : List (D × D)) (l : List (Key × D)) : List (D × D) := l.foldl (fun acc p => putP acc (kD p.1) p.2) acc
def TkE (X : Cx) (ρ : List Addr) (H : Hp) (p : D × D) (q : Key × Value) : Prop := p.1 = kD q.1 ∧ ∃ dv, VR X.K ρ H p.2 dv ∧ RelV dv q.2
section
variable {X : Cx} {pins : List (Addr × Obj)} {σ : L2.St} {H : Hp} {s : Shared} {ρ : List Addr} {S : Sto}
theorem tk_get : ∀ {kvs : List (D × D)} {qs : List (Key × Value)} {x : Key}, Paired (TkE X ρ H) kvs qs → (getP kvs (kD x)).isSome = qs.any fun q => decide (q.1 = x)
  | _, _, x, .nil => by simp [getP]
  | p :: kvs, q :: qs, x, .cons r t => by
    have ih := tk_get (x := x) t
    unfold getP at ih ⊢
    rw [List.find?_cons, List.any_cons]
    have e : (p.1 = kD x) ↔ q.1 = x := by rw [r.1]; exact ⟨kD_inj, fun e => by rw [e]⟩
    by_cases h : q.1 = x
    · simp [e.mpr h, h]
    · have h2 : ¬ p.1 = kD x := fun z => h (e.mp z)
      simp only [h, h2, decide_false, Bool.false_or]
      exact ih
theorem tk_map {x : Key} {d : D} {v : Value} {dv : V} (h1 : VR X.K ρ H d dv) (h2 : RelV dv v) : ∀ {kvs : List (D × D)} {qs : List (Key × Value)}, Paired (TkE X ρ H) kvs qs → Paired (TkE X ρ H) (kvs.map fun p => if p.1 = kD x then (p.1, d) else p) (qs.map fun q => if q.1 = x then (q.1, v) else q)
  | _, _, .nil => .nil
  | p :: kvs, q :: qs, .cons r t => by
    have ih := tk_map (x := x) h1 h2 t
    rw [List.map_cons, List.map_cons]
    refine .cons ?_ ih
    have e : (p.1 = kD x) ↔ q.1 = x := by rw [r.1]; exact ⟨kD_inj, fun e => by rw [e]⟩
    by_cases h : q.1 = x
    · rw [if_pos (e.mpr h), if_pos h]
      exact ⟨r.1, dv, h1, h2⟩
    · rw [if_neg (fun z => h (e.mp z)), if_neg h]
      exact r
theorem tk_put {x : Key} {d : D} {v : Value} {dv : V} {kvs : List (D × D)} {qs : List (Key × Value)} (t : Paired (TkE X ρ H) kvs qs) (h1 : VR X.K ρ H d dv) (h2 : RelV dv v) : Paired (TkE X ρ H) (putP kvs (kD x) d) (PySem.stored qs x v) := by
  unfold putP PySem.stored
  rw [tk_get t]
  by_cases c : (qs.any fun q => decide (q.1 = x)) = true
  · rw [if_pos c, if_pos c]
    exact tk_map h1 h2 t
  · rw [if_neg c, if_neg c]
    exact paired_app ⟨rfl, dv, h1, h2⟩ t
/-- the pairs, put -/
theorem tk_zip : ∀ {ps : List (Key × D)} {rs : List (Key × Value)} {kvs : List (D × D)} {qs : List (Key × Value)}, Paired (TkE X ρ H) kvs qs → Paired (fun (p : Key × D) (r : Key × Value) => r.1 = p.1 ∧ ∃ dv, VR X.K ρ H p.2 dv ∧ RelV dv r.2) ps rs → Paired (TkE X ρ H) (zipK kvs ps) (PySem.merged qs rs)
  | _, _, kvs, qs, t, .nil => by simpa [zipK, PySem.merged] using t
  | p :: ps, r :: rs, kvs, qs, t, .cons ⟨h0, dv, h1, h2⟩ h => by
    have := tk_zip (tk_put (x := p.1) t h1 h2) h
    rw [← h0] at this
    simpa [zipK, PySem.merged, h0] using this
theorem tk_nodup : ∀ {kvs : List (D × D)} {qs : List (Key × Value)}, Paired (TkE X ρ H) kvs qs → (kvs.map fun p => keyOf p.1) = qs.map fun q => keyOf (kD q.1)
  | _, _, .nil => rfl
  | _, _, .cons r t => by rw [List.map_cons, List.map_cons, tk_nodup t, r.1]
theorem tk_ent : ∀ {kvs : List (D × D)} {qs : List (Key × Value)} {es : List DictEntry}, Paired (TkE X ρ H) kvs qs → Pairs (mixKind X.prog X.w) es qs → (∀ e ∈ es, ∃ k, (mixKind X.prog X.w).is k e.key = true ∧ e.hash = (mixKind X.prog X.w).hash k) → Paired (EntR X.w X.K ρ H) kvs es
  | _, _, _, .nil, .nil, _ => .nil
  | p :: _, q :: _, e :: _, .cons ⟨r1, dv, r2, r3⟩ t, .cons g1 g2 t2, hk => by
    refine .cons ?_ (tk_ent t t2 fun e he => hk e (List.mem_cons_of_mem _ he))
    obtain ⟨k, k1, k2⟩ := hk e List.mem_cons_self
    have ek : k = q.1 := (mixKind X.prog X.w).inj _ _ _ k1 g1
    subst ek
    obtain ⟨key, val⟩ := q
    cases key with
    | inl i =>
      obtain ⟨u, hu⟩ := Value.isInt_shape g1
      exact ⟨.num i, .int i, dv, by rw [r1]; rfl, Nat.zero_le _, by rw [k2]; rfl, by rw [r1]; exact .int, ⟨u, hu⟩, r2, by rw [g2]; exact r3⟩
    | inr x =>
      obtain ⟨u, hu⟩ := Value.isStrOf_shape g1
      exact ⟨.text x, .str x, dv, by rw [r1]; rfl, Nat.zero_le _, by rw [k2]; rfl, by rw [r1]; exact .str, ⟨u, hu⟩, r2, by rw [g2]; exact r3⟩
/-- where the pairs stand -/
theorem pairs_at (I : L2.Inv X pins σ H s) : ∀ {ps : List (Key × D)} {vs : List V} {us : List Value}, VRs X.K ρ H (ps.map fun p => D.tup [kD p.1, p.2]) vs → Vals vs us →
    ∃ (rs : List (Key × Value)) (zs : List (Value × Value)), us.length = ps.length ∧ zs.length = ps.length ∧ Paired (fun (p : Key × D) (r : Key × Value) => r.1 = p.1 ∧ ∃ dv, VR X.K ρ H p.2 dv ∧ RelV dv r.2) ps rs ∧
      ∀ (j : Nat) k v, zs[j]? = some (k, v) → (∃ a, us[j]? = some (.ref a) ∧ PairAt s.heap a k v) ∧ ∃ key, rs[j]? = some (key, v) ∧ keyIs key k = true
  | [], vs, us, h, r => by
    rw [List.map_nil] at h
    unfold VRs at h
    subst h
    cases r
    exact ⟨[], [], rfl, rfl, .nil, fun j k v e => by simp at e⟩
  | p :: ps, vs, us, h, r => by
    rw [List.map_cons] at h
    unfold VRs at h
    obtain ⟨v, vr, rfl, g1, g2⟩ := h
    cases r with
    | cons r1 r2 =>
    rename_i u ur
    obtain ⟨rs, zs, h1, h2, h3, h4⟩ := pairs_at I g2 r2
    unfold VR at g1
    obtain ⟨a, ws, rfl, g3, g4⟩ := g1
    cases (show u = Value.ref a from r1)
    obtain ⟨its, rv, pt, _⟩ := I.tuple g3.sq
    obtain ⟨k1, k2, rfl, q1, q2⟩ := g4.two_of
    obtain ⟨u1, u2, rfl, w1, w2⟩ := vals2 rv
    refine ⟨(p.1, u2) :: rs, (u1, u2) :: zs, by simp [h1], by simp [h2], .cons ⟨rfl, k2, q2, w2⟩ h3, fun j k v e => ?_⟩
    cases j with
    | zero =>
      have e' : (u1, u2) = (k, v) := by simpa using e
      cases e'
      refine ⟨⟨a, rfl, .inl pt⟩, p.1, rfl, ?_⟩
      cases hk : p.1 with
      | inl i =>
        rw [hk] at q1
        cases (show k1 = V.int i from q1)
        obtain ⟨t, rfl⟩ := (show ∃ t, u1 = Value.int i t from w1)
        exact keyIs_int _ _
      | inr x =>
        rw [hk] at q1
        cases (show k1 = V.str x from q1)
        obtain ⟨t, rfl⟩ := (show ∃ t, u1 = Value.str x t from w1)
        exact keyIs_str _ _
    | succ j => exact h4 j k v (by simpa using e)
def dDictP : DCall := fun ds S R => ∃ (d : D) (pr : List D × (Sto → Prop)) (ps : List (Key × D)), ds = [d] ∧ lstD S d = some pr ∧ pr.1 = ps.map (fun p => D.tup [kD p.1, p.2]) ∧ ∀ ep, R (.loc S.length) (S ++ [.dct ep (zipK [] ps)])
theorem cd_dictP (hc : X.calm = true) : CallR X (.type "dict") (rCD X dDictP) := by
  intro pins s σ H xs us Q I rs ⟨ρ, S, ds, R, W, r, ⟨d, pr, ps, e0, e1, e2, e4⟩, p⟩
  subst e0
  obtain ⟨v, rfl, rv⟩ := r.one_of
  obtain ⟨u, rfl, ru⟩ := vals1 rs
  obtain ⟨l, vs, rfl, hq, hv, _⟩ := lstD_ok W rv e1
  cases (show u = Value.ref l from ru)
  obtain ⟨its, rx, pl, hz⟩ := I.list hq
  rw [e2] at hv
  obtain ⟨rs', zs, h1, h2, h3, h4⟩ := pairs_at I hv rx
  have hlr : rs'.length = ps.length := by have := h3.length; omega
  let Ts : Nat → Addr := fun j => match its[j]? with
    | some (.ref a) => a
    | _ => 0
  have hPI : PairItems s.heap its.toArray Ts zs := ⟨by simp [h1, h2], fun j k v e => by
    obtain ⟨⟨a, g1, g2⟩, _⟩ := h4 j k v e
    have eT : Ts j = a := by simp only [Ts, g1]
    rw [eT]
    exact ⟨by simpa using g1, g2⟩⟩
  obtain ⟨o, n, ho, hcl, hdi, hdt⟩ := pl
  refine call_dict_pairs (knd := mixKind X.prog X.w) (kvs := rs') (PairArg.list l its.toArray Ts zs) (I.ok.hd hc) ⟨⟨o, n, ho, hcl, hdi, hdt⟩, hPI⟩ ⟨by omega, fun i key v e => ?_⟩ ?_ fun h' tk hd hkk => ?_
  · obtain ⟨_, k, g1, g2⟩ := h4 i key v e
    exact ⟨k, g1, g2⟩
  · have := rx.length
    omega
  obtain ⟨o, es, ep', ho, hx, hdat, hks, hpr, hnd⟩ := hd
  have hob : DictObj s.heap.objs.size es ep' h' := ⟨o, ho, hx, hdat⟩
  have keep : ∀ b o, s.heap.get? b = some o → h'.get? b = some o := fun b o e => hkk b o (fun z => nomatch z) e
  have I2 := I.laid (a := s.heap.objs.size) (o := .ext (DictObj s.heap.objs.size es ep')) (h' := h') (t' := tk) keep (Nat.le_refl _) (ext_ok hob)
  have hn : H s.heap.objs.size = none := I.hok.fresh (Nat.le_refl _)
  refine ⟨.ref s.heap.objs.size, _, I2, rfl, ?_⟩
  have vx := (ext_alloc (ρ := ρ) (u := .ext (DictObj s.heap.objs.size es ep')) hn).vx W.sep
  have txp : Paired (TkE X ρ H) (zipK [] ps) (PySem.merged [] rs') := tk_zip .nil h3
  have hml := merged_len rs' []
  have hzl : (zipK [] ps).length ≤ sizeLine := by
    have e5 : (zipK [] ps).length = (PySem.merged [] rs').length := by have := congrArg List.length (tk_nodup txp); simpa using this
    have := rx.length
    simp only [List.length_nil, Nat.zero_add] at hml
    omega
  have hnd2 : ((zipK [] ps).map fun p => keyOf p.1).Nodup := by
    rw [tk_nodup txp]
    have e6 : ((PySem.merged [] rs').map fun q => keyOf (kD q.1)) = ((PySem.merged [] rs').map (·.1)).map fun x => keyOf (kD x) := by rw [List.map_map]; rfl
    rw [e6]
    rw [List.nodup_iff_pairwise_ne, List.pairwise_map]
    refine (List.nodup_iff_pairwise_ne.mp hnd).imp fun {a b} ne e => ne ?_
    cases a <;> cases b <;> simp [kD, keyOf] at e <;> simp [e]
  refine p _ _ (e4 ep') _ _ _ (ext_alloc hn) (W.alloc hn ⟨sys_new I.big, hzl, hnd2, es, upd_same, ?_⟩) (.loc (by rw [← W.len]; exact List.getElem?_concat_length ..))
  refine Paired.mapP (tk_ent txp hpr fun e he => ?_) fun p e z => z.vx vx
  exact hks e (Array.mem_toList_iff.mp he)
end
section
variable {τ : DEnv} {S : Sto} {R : DQ} {we : WE} {d : D}
@[simp ↓] theorem wSetLn_ap : wSetLn we τ S R = we τ S fun d S1 => ∃ (ks : List Key), seqD S1 d = some (ks.map kD) ∧ ks.length ≤ 4000 ∧ ∀ zs : List Key, zs.Nodup → (∀ k, k ∈ zs ↔ k ∈ ks) → R (.int (zs.length : Nat)) S1 := rfl
theorem dDictP_ap : dDictP [d] S R = ∃ (pr : List D × (Sto → Prop)) (ps : List (Key × D)), lstD S d = some pr ∧ pr.1 = ps.map (fun p => D.tup [kD p.1, p.2]) ∧ ∀ ep, R (.loc S.length) (S ++ [.dct ep (zipK [] ps)]) := by simp [dDictP]
end
end Dl

namespace Dl
open PySem L2 PyProof.Rows PySem.Spec
open Sem (wp)

/-! ## for i, x in enumerate(t), t a tuple -/
theorem meets_enumerate_newT (l : Addr) (items : Array Value) :
    Meets (Builtin.«enumerate.__new__» ⟨[.type "enumerate", .ref l], []⟩) (fun _ R s => s.heap.IsTuple l items ∧
      R (.ok (.ret (.ref (s.heap.push { cls := .type "tuple_iterator", data := .fields #[.ref l, .int 0 0] }).objs.size)))
        { s with heap := (s.heap.push { cls := .type "tuple_iterator", data := .fields #[.ref l, .int 0 0] }).push { cls := .type "enumerate", data := .fields #[.none, .bool false, .ref s.heap.objs.size, rawInt 0, .none, .none] } }) :=
  .of_wp fun prog w A R s h => by
    obtain ⟨hp, g, d, tk, os⟩ := s; obtain ⟨hL, h⟩ := h
    have hsub := sub_enumerate
    have q1 : ∀ {A' : Around} {E : Value → Shared → Prop} {Q : Value → Shared → Prop}, Q (.ref hp.objs.size) ⟨hp.push { cls := .type "tuple_iterator", data := .fields #[.ref l, .int 0 0] }, g, d, tk, os⟩ → wpAny (model prog w) A' (pyIter (.ref l)) Q E ⟨hp, g, d, tk, os⟩ :=
      fun q => (begins_tuple l items).iter prog w _ _ ⟨hp, g, d, tk, os⟩ _ hL q
    wp_walk using q1
    refine wpAny_stack_any fun st => wpAny_pure ?_
    split
    · rename_i c _ _ _ _ _
      cases (c == Value.type "enumerate")
      · wp_walk using q1
        exact ⟨_, rfl, h⟩
      · wp_walk using q1
        exact ⟨_, rfl, h⟩
    · wp_walk using q1
      exact ⟨_, rfl, h⟩
section
variable {prog : Program} {w : World} {A : Around} {E : Value → Shared → Prop} {s : Shared}
theorem call_enumerate_tuple {l : Addr} {items : Array Value} {Q : Value → Shared → Prop} (hL : s.heap.IsTuple l items)
    (h : ∀ h', IsEnum h' (s.heap.objs.size + 1) s.heap.objs.size 0 .none → h'.IsTupleIter s.heap.objs.size l 0 → h'.objs.size = s.heap.objs.size + 2 →
      (∀ b o, s.heap.get? b = some o → h'.get? b = some o) → Q (.ref (s.heap.objs.size + 1)) { s with heap := h' }) :
    wpAny (model prog w) A (call (.type "enumerate") [.ref l]) Q E s := by
  refine callType_new PySem.F.called_enumerate (by decide) (PySem.F.typeCall_enumerate_1 _) (PySem.F.newCall_enumerate_1 _) (fun obj => PySem.F.args_object_init_2 obj _) PySem.F.entry_enumerate_new
    (meets_enumerate_newT l items) ⟨hL, ?_⟩
  have hz : (s.heap.push { cls := .type "tuple_iterator", data := .fields #[.ref l, .int 0 0] }).objs.size = s.heap.objs.size + 1 := Heap.size_push ..
  show _ ∧ _
  rw [hz]
  have he : IsEnum ((s.heap.push { cls := .type "tuple_iterator", data := .fields #[.ref l, .int 0 0] }).push
      { cls := .type "enumerate", data := .fields #[.none, .bool false, .ref s.heap.objs.size, rawInt 0, .none, .none] }) (s.heap.objs.size + 1) s.heap.objs.size 0 .none := by
    have := Heap.get?_push_size (s.heap.push { cls := .type "tuple_iterator", data := .fields #[.ref l, .int 0 0] })
      (o := { cls := .type "enumerate", data := .fields #[.none, .bool false, .ref s.heap.objs.size, rawInt 0, .none, .none] }) rfl
    rw [hz] at this; exact this
  refine ⟨⟨_, he, rfl⟩, h _ he ⟨_, Heap.get?_push_of_some _ (Heap.get?_push_size _ rfl), rfl, rfl⟩ (by rw [Heap.size_push, hz]) fun b o x => Heap.get?_push_of_some _ (Heap.get?_push_of_some _ x)⟩
end
/-- the tuple at a, each item in a new pair -/
def IteT (K : PySem.W.Frag) (a : Addr) : It :=
  ⟨fun i H => ∃ (xs : List V) (x : V), SqT K H a xs ∧ xs[i]? = some x, fun i H v H' => ∃ T x, v = .ref T ∧ H T = none ∧ H' = upd H T (.tup [.int (i : Nat), x]) ∧ ∀ xs, SqT K H a xs → xs[i]? = some x, fun i H => ∃ xs : List V, SqT K H a xs ∧ xs.length ≤ i⟩
theorem turn_enumT {P : Program} {w : World} {K : PySem.W.Frag} {elts : List Expr} {kk : Nat} {tpos : Pos} (a e it : Addr) :
    Turn P w K (.Tuple elts kk tpos) (IteT K a) [e, it] e (fun i h => (∃ old, IsEnum h e it ((i : Nat) : Int) old) ∧ h.IsTupleIter it a i ∧ e ≠ it ∧ a ≠ it ∧ e ≠ a) where
  mem := by simp
  obj := fun i h st b hb => by
    obtain ⟨⟨old, he⟩, ⟨o, ho, hc, hd⟩, _⟩ := st
    have e' : b = e ∨ b = it := by simpa using hb
    rcases e' with z | z
    · rw [z]; exact ⟨_, he, fun v q => nomatch q⟩
    · rw [z]; exact ⟨o, ho, fun v q => by rw [hd] at q; cases q⟩
  keep := fun i h h' st k => let ⟨⟨old, he⟩, hi, hne⟩ := st; ⟨⟨old, k e (by simp) _ he⟩, hi.at fun o q => k it (by simp) o q, hne⟩
  item := by
    intro X hP hw hK hc i pins s σ H E I hf st hg
    subst hP hw hK
    obtain ⟨⟨old, he⟩, hit, hne, hat, hea⟩ := st
    obtain ⟨xs, x, hq, hx⟩ := hg
    obtain ⟨its, rv, p, hz⟩ := I.tuple hq
    obtain ⟨u, hu, ru⟩ := rv.get hx
    have hel : e < s.heap.objs.size := Heap.lt_size he
    have hil : it < s.heap.objs.size := by obtain ⟨_, q, _⟩ := hit; exact Heap.lt_size q
    have hlt : i < its.toArray.size := by have := (List.getElem?_eq_some_iff.mp hu).1; simpa using this
    refine wpAny_pyNext_enum_itemC (Draws.tuple (A := X.A.in1) (I.ok.hd hc) it a hat its.toArray) he ⟨hit, p⟩ hlt hne (by simp; exact ⟨hne, hea⟩) fun x' h' tk hP' ho hit' hT hsz hk => ?_
    have hx' : x' = u := by
      have hP'' : its.toArray[i]? = some x' := hP'
      have : its[i]? = some x' := by simpa using hP''
      rw [hu] at this
      exact (Option.some.inj this).symm
    subst hx'
    refine ⟨_, rfl, wpAny_letOwnedTupleGo_enum (s := { s with heap := h', toks := tk + 1 }) ho fun h'' he' sb => ?_⟩
    have hT2 : h''.get? s.heap.objs.size = some { cls := .type "tuple", data := .seq #[.int i tk, x'] } := (sb.2 _ (Nat.ne_of_gt hel)).trans hT
    have new : ObjOk X.prog X.w (upd H s.heap.objs.size (.tup [.int (i : Nat), x])) h'' s.heap.objs.size (.tup [.int (i : Nat), x]) :=
      ⟨by show 2 ≤ sizeLine; decide, [.int i tk, x'], .cons ⟨_, rfl⟩ (.cons ru .nil), ⟨_, hT2, rfl, _, rfl⟩⟩
    have I1 : L2.Inv X pins σ (upd H s.heap.objs.size (.tup [.int (i : Nat), x])) { s with heap := h'', toks := tk + 1 } :=
      I.turnedNew (ch := [e, it]) (fun b ob hb q => (sb.2 b (fun z => hb (by simp [z]))).trans (hk b ob (fun z => hb (by simp [z])) (fun z => hb (by simp [z])) q)) hf (Nat.le_refl _) new
    refine ⟨.ref s.heap.objs.size, _, I1, rfl, ⟨_, x, rfl, I.hok.fresh (Nat.le_refl _), rfl, fun ys hy => by rw [I.tuple_inj hy hq]; exact hx⟩, ⟨⟨x', ?_⟩, hit'.1.at fun o q => (sb.2 it (Ne.symm hne)).trans q, hne, hat, hea⟩, fun b hb => ?_⟩
    · have e1 : ((i + 1 : Nat) : Int) = (i : Int) + 1 := by omega
      rw [e1]; exact he'
    · have hb' : b < s.heap.objs.size := by
        have e' : b = e ∨ b = it := by simpa using hb
        rcases e' with z | z
        · rw [z]; exact hel
        · rw [z]; exact hil
      rw [upd_ne (Nat.ne_of_lt hb')]
      exact (hf b hb).1
  done := by
    intro X hP hw hK hc i pins s σ H E I hf st hg
    subst hP hw hK
    obtain ⟨⟨old, he⟩, hit, hne, hat, hea⟩ := st
    obtain ⟨xs, hq, hx⟩ := hg
    obtain ⟨its, rv, p, hz⟩ := I.tuple hq
    obtain ⟨f0, f1, f2, f3, f4, f5⟩ := hf it (by simp)
    have hl := rv.length
    have D : Draws X.prog X.w X.A.in1 it [it, a] i (fun _ _ => False) (fun j h => j = i ∧ h.IsTupleIter it a i ∧ h.IsTuple a its.toArray) := {
      live := fun _ _ st => let ⟨o, ho, _⟩ := st.2.1; ⟨o, ho⟩
      frame := fun _ _ _ st hk => ⟨st.1, st.2.1.at fun o e => hk it (by simp) o e, st.2.2.at fun o e => hk a (by simp) o e⟩
      item := fun j s Q E hj st _ => absurd st.1 (by omega)
      done := fun s Q E st hE => wpAny_nextOf_tuple_end (I.ok.hd hc) st.2.1 st.2.2 (by simp; omega) hE }
    exact wpAny_pyNext_enum_endD D he ⟨rfl, hit, p⟩ fun h' eb => ⟨rfl, I.turned (t' := s.toks) (fun b o hb q => eb b o hb q) f0 f1 f3 f4 f5⟩
  self := fun A i s Q E st h => let ⟨⟨_, he⟩, _⟩ := st; wpAny_pyIter_enum he h
def iEnumA (K : PySem.W.Frag) (ta : TA) : TI := fun σ H R => ta σ H fun vs H1 => ∃ a, vs = [.ref a] ∧ ((∃ xs, SqL K H1 a xs ∧ R (Ite K a) H1) ∨ ∃ xs, SqT K H1 a xs ∧ R (IteT K a) H1)
theorem pi_enumA {X : Cx} {e : Expr} {ta : TA} {p pos tpos : Pos} {elts : List Expr} {kk : Nat} (hg : Gl X "enumerate") (hm : X.mg "enumerate" = none) (ha : PA X [e] ta) (hs : starEach [e] X.env = [(false, eval e X.env)] := by rfl) :
    PI X (.Tuple elts kk tpos) (.Call (.Name "enumerate" p) [e] [] pos) (iEnumA X.K ta) := by
  refine ⟨fun pins s σ H R I h => ?_⟩
  refine Call_ (ld_blt I hg hm boot_enumerate (PyProof.Rows.callWith_type1 (thn (ha.run pos pins s σ H _ I h) fun us s1 ⟨vs, H1, I1, r1, q1⟩ => ?_) hs rfl))
  obtain ⟨a, ex, q⟩ := q1
  subst ex
  cases r1 with
  | cons r rr =>
    cases rr
    cases r
    rcases q with ⟨xs, hq, q⟩ | ⟨xs, hq, q⟩
    · obtain ⟨its, rv, p', hz⟩ := I1.list hq
      refine call_enumerate_list p'.isList fun h' he hit hsz hk => wpAny_pyIter_enum he ?_
      have I2 : L2.Inv X pins σ H1 { s1 with heap := h' } := I1.kept (t' := s1.toks) hk
      refine ⟨s1.heap.objs.size + 1, [s1.heap.objs.size + 1, s1.heap.objs.size], _, _, H1, rfl, I2, turn_enum a (s1.heap.objs.size + 1) s1.heap.objs.size, ⟨⟨.none, he⟩, hit, Nat.succ_ne_self _⟩, fun b hb => ?_, q⟩
      have e' : b = s1.heap.objs.size + 1 ∨ b = s1.heap.objs.size := by simpa using hb
      have hle : s1.heap.objs.size ≤ b := by
        rcases e' with z | z
        · rw [z]; exact Nat.le_add_right _ _
        · rw [z]; exact Nat.le_refl _
      exact I1.fpOk hle (I1.hok.fresh hle)
    · obtain ⟨its, rv, p', hz⟩ := I1.tuple hq
      have la : a < s1.heap.objs.size := p'.lt
      refine call_enumerate_tuple (show s1.heap.IsTuple a its.toArray from p') fun h' he hit hsz hk => wpAny_pyIter_enum he ?_
      have I2 : L2.Inv X pins σ H1 { s1 with heap := h' } := I1.kept (t' := s1.toks) hk
      refine ⟨s1.heap.objs.size + 1, [s1.heap.objs.size + 1, s1.heap.objs.size], _, _, H1, rfl, I2, turn_enumT a (s1.heap.objs.size + 1) s1.heap.objs.size, ⟨⟨.none, he⟩, hit, Nat.succ_ne_self _, Nat.ne_of_lt la, Ne.symm (Nat.ne_of_lt (Nat.lt_succ_of_lt la))⟩, fun b hb => ?_, q⟩
      have e' : b = s1.heap.objs.size + 1 ∨ b = s1.heap.objs.size := by simpa using hb
      have hle : s1.heap.objs.size ≤ b := by
        rcases e' with z | z
        · rw [z]; exact Nat.le_add_right _ _
        · rw [z]; exact Nat.le_refl _
      exact I1.fpOk hle (I1.hok.fresh hle)
section
variable {X : Cx}
theorem jr_enumT {ρ : List Addr} {H : Hp} {a : Addr} {xs : List D} (h : TupHas X ρ H a xs) : JR X (IteT X.K a) ρ H (enumD xs) (fun _ => True) where
  go := fun i d ρ' S' H' x W' hc hd => by
    obtain ⟨d1, g1, rfl⟩ := enum_get hd
    obtain ⟨vs, q1, r1⟩ := h ρ' S' H' x W'
    obtain ⟨v, e1, k1⟩ := r1.get g1
    refine ⟨⟨vs, v, q1, e1⟩, fun y H2 ⟨T, x', e, hT, hH, p1⟩ => ?_⟩
    have e3 := p1 vs q1
    rw [e1] at e3
    cases e3
    subst e hH
    exact ⟨ext_new hT, W'.laid hT, .tup (.inl upd_same) (.cons .int (.cons (k1.ext W'.sep (ext_new hT)) .nil))⟩
  stop := fun i ρ' S' H' x W' hc hi => by
    obtain ⟨vs, h1, h2⟩ := h ρ' S' H' x W'
    refine ⟨vs, h1, ?_⟩
    rw [h2.length]
    unfold enumD at hi
    simpa using hi
def wiEnumA (wr : WA) : WI := fun τ S R => wr τ S fun ds S1 => ∃ d, ds = [d] ∧ ((∃ p, lstD S1 d = some p ∧ R (enumD p.1) p.2 S1) ∨ ∃ xs, d = .tup xs ∧ R (enumD xs) (fun _ => True) S1)
theorem di_enumA {e : Expr} {wr : WA} {p pos tpos : Pos} {elts : List Expr} {kk : Nat} (hm : X.mg "enumerate" = none) (hg : Gl X "enumerate") (ha : PA X [e] (dA X wr)) (hs : starEach [e] X.env = [(false, eval e X.env)] := by rfl) :
    PI X (.Tuple elts kk tpos) (.Call (.Name "enumerate" p) [e] [] pos) (dI X (wiEnumA wr)) :=
  PI.imp (pi_enumA hg hm ha hs) fun σ H R ⟨ρ, τ, S, Rd, W, er, h, p⟩ => ⟨ρ, τ, S, _, W, er, h, fun ds S1 ⟨d, e1, h1⟩ ρ1 H1 vs x1 W1 r => by
    subst e1
    obtain ⟨v, rfl, r1⟩ := r.one_of
    rcases h1 with ⟨pr, e2, h1⟩ | ⟨xs, e2, h1⟩
    · obtain ⟨a, vs, rfl, h2, h3, l1⟩ := lstD_ok W1 r1 e2
      exact ⟨a, rfl, .inl ⟨vs, h2, p _ _ S1 h1 ρ1 H1 _ x1 W1 (jr_enum l1)⟩⟩
    · subst e2
      unfold VR at r1
      obtain ⟨a, vs, rfl, h2, h3⟩ := r1
      exact ⟨a, rfl, .inr ⟨vs, h2.sq, p _ _ S1 h1 ρ1 H1 _ x1 W1 (jr_enumT (tupHas W1 h2 h3))⟩⟩⟩
end
@[simp ↓] theorem wiEnumA_ap {wr : WA} {τ : DEnv} {S : Sto} {Ri : List D → (Sto → Prop) → Sto → Prop} : wiEnumA wr τ S Ri = wr τ S fun ds S1 => ∃ d, ds = [d] ∧ ((∃ p, lstD S1 d = some p ∧ Ri (enumD p.1) p.2 S1) ∨ ∃ xs, d = .tup xs ∧ Ri (enumD xs) (fun _ => True) S1) := rfl
end Dl

namespace Dl
open PySem L2 PyProof.Rows PySem.Spec

/-! ## range with a step -/
def rangeC (lo c : Int) (n : Nat) : List D := (List.range n).map fun k => D.int (lo + (k : Nat) * c)
section
variable {X : Cx}
theorem jr_rangeC {ρ : List Addr} {H : Hp} (lo c : Int) (n : Nat) : JR X (Itc lo c n) ρ H (rangeC lo c n) (fun _ => True) where
  go := fun i d ρ' S' H' xx W' hc hd => by
    unfold rangeC at hd
    rw [List.getElem?_map] at hd
    by_cases hl : i < n
    · rw [List.getElem?_range hl] at hd
      cases hd
      refine ⟨hl, fun y H2 ⟨e1, e2⟩ => ?_⟩
      subst e1
      rw [e2]
      exact ⟨Ext.refl _ _, W', .int⟩
    · rw [List.getElem?_eq_none (by simp; omega)] at hd
      cases hd
  stop := fun i ρ' S' H' xx W' hc hi => by
    have : n ≤ i := by
      unfold rangeC at hi
      simpa using hi
    exact this
def wiRange3 (wr : WA) : WI := fun τ S R => wr τ S fun ds S1 => ∃ (i j c : Int) (n : Nat), ds = [.int i, .int j, .int c] ∧ RgC i j c n ∧ R (rangeC i c n) (fun _ => True) S1
theorem di_range3 {tg a b c : Expr} {wr : WA} {p pos : Pos} (hm : X.mg "range" = none) (hg : Gl X "range") (ha : PA X [a, b, c] (dA X wr))
    (hs : starEach [a, b, c] X.env = (false, eval a X.env) :: starEach [b, c] X.env := by rfl) (hpl : (backTo pos (starEach [b, c] X.env)).any (·.1) = false := by rfl) :
    PI X tg (.Call (.Name "range" p) [a, b, c] [] pos) (dI X (wiRange3 wr)) :=
  PI.imp (pi_range3 hg hm ha hs hpl) fun σ H R ⟨ρ, τ, S, Rd, W, er, h, p⟩ => ⟨ρ, τ, S, _, W, er, h, fun ds S1 ⟨i, j, c, n, e, b1, h1⟩ ρ1 H1 vs x1 W1 r => by
    subst e
    obtain ⟨v, u, t, rfl, r1, r2, r3⟩ := r.three_of
    cases r1.int_of
    cases r2.int_of
    cases r3.int_of
    exact ⟨i, j, c, n, rfl, b1, p _ _ S1 h1 ρ1 H1 _ x1 W1 (jr_rangeC i c n)⟩⟩
end
@[simp ↓] theorem wiRange3_ap {wr : WA} {τ : DEnv} {S : Sto} {Ri : List D → (Sto → Prop) → Sto → Prop} : wiRange3 wr τ S Ri = wr τ S fun ds S1 => ∃ (i j c : Int) (n : Nat), ds = [.int i, .int j, .int c] ∧ RgC i j c n ∧ Ri (rangeC i c n) (fun _ => True) S1 := rfl
end Dl

namespace Dl
open PySem L2 PyProof.Rows PySem.Spec

/-! ## x.isupper() -/
section
variable {X : Cx}
def dIsup : DMt := fun d ds S R => ∃ a, d = .str a ∧ ds = [] ∧ R (.bl (Txt.isupper a)) S
theorem md_isupper : MtR X "str.isupper" (rMD X dIsup) := MtR.imp mt_isupper fun x us H Q ⟨ρ, S, d, ds, R, W, r1, r2, ⟨a, e1, e2, q⟩, p⟩ => by
  subst e1 e2
  refine ⟨a, r1.str_of, ?_, trivial, p _ _ q ρ H _ (Ext.refl _ _) W .bl⟩
  unfold VRs at r2
  exact r2
end
@[simp] theorem dIsup_ap {x : Str} {S : Sto} {R : DQ} : dIsup (.str x) [] S R = R (.bl (Txt.isupper x)) S := by simp [dIsup]
end Dl

namespace Dl
open PySem L2 PyProof.Rows PySem.Spec

/-! ## a tuple so many times -/
section
variable {X : Cx}
def dMulT : DOp := fun d1 d2 S R => ∃ xs k, d1 = .tup xs ∧ d2 = .int k ∧ xs ≠ [] ∧ 2 ≤ k ∧ k ≤ 1000 ∧ xs.length ≤ 1000 ∧ R (.tup (List.replicate k.toNat xs).flatten) S
theorem od_mulT : OpR X (binaryOp .Mult) (rD X dMulT) := OpR.imp op_repT fun x y H Q ⟨ρ, S, d1, d2, R, W, r1, r2, ⟨xs, k, e1, e2, h0, b1, b2, hz, q⟩, p⟩ => by
  subst e1 e2
  unfold VR at r1
  obtain ⟨a, vs, rfl, h2, h3⟩ := r1
  have hl := h3.length
  exact ⟨a, k, vs, rfl, r2.int_of, h2.sq, fun e => h0 (by subst e; exact List.length_eq_zero_iff.mp (by simpa using hl.symm)), b1, b2, by omega, fun c hc => new_tup W (h3.rep _) q p hc⟩
end
@[simp] theorem dMulT_ap {xs : List D} {k : Int} {S : Sto} {R : DQ} : dMulT (.tup xs) (.int k) S R = (xs ≠ [] ∧ 2 ≤ k ∧ k ≤ 1000 ∧ xs.length ≤ 1000 ∧ R (.tup (List.replicate k.toNat xs).flatten) S) := by simp [dMulT]
end Dl

namespace Dl
open PySem L2 PyProof.Rows PySem.Spec

/-! ## d.pop(k), k a text that is there, all keys texts -/
noncomputable def cutK (kvs : List (D × D)) (x : Str) : List (D × D) := kvs.filter fun p => !decide (p.1 = .str x)
def dPopD : DMt := fun d ds S R => ∃ l ep kvs x v, d = .loc l ∧ ds = [.str x] ∧ S[l]? = some (.dct ep kvs) ∧ (∀ p ∈ kvs, ∃ y, p.1 = .str y) ∧ (D.str x, v) ∈ kvs ∧ ∀ ep', R v (S.set l (.dct ep' (cutK kvs x)))
section
variable {X : Cx} {ρ : List Addr} {H : Hp}
theorem txE_without {x : Str} : ∀ {kvs : List (D × D)} {qs : List (Str × Value)}, Paired (TxE X ρ H) kvs qs → Paired (TxE X ρ H) (cutK kvs x) (without qs x)
  | _, _, .nil => .nil
  | p :: kvs, q :: qs, .cons r t => by
    have ih := txE_without (x := x) t
    obtain ⟨r1, r2⟩ := id r
    unfold cutK without at ih ⊢
    by_cases h : q.1 = x
    · have h2 : p.1 = .str x := by rw [r1, h]
      simpa [h, h2] using ih
    · have h2 : ¬ p.1 = .str x := by rw [r1]; intro e; cases e; exact h rfl
      simpa [h, h2] using Paired.cons r ih
theorem txE_value {x : Str} {v : D} : ∀ {kvs : List (D × D)} {qs : List (Str × Value)}, Paired (TxE X ρ H) kvs qs → (kvs.map fun p => keyOf p.1).Nodup → (D.str x, v) ∈ kvs → ∃ u dv, valueAt qs x = some u ∧ VR X.K ρ H v dv ∧ RelV dv u
  | _, _, .nil, _, hm => by cases hm
  | p :: kvs, q :: qs, .cons r t, nd, hm => by
    obtain ⟨r1, dv, r2, r3⟩ := r
    rw [List.map_cons, List.nodup_cons] at nd
    rcases List.mem_cons.mp hm with e | hm
    · cases e
      have e : x = q.1 := by cases r1; rfl
      exact ⟨q.2, dv, by simp [valueAt, ← e], r2, r3⟩
    · have hne : q.1 ≠ x := fun e => nd.1 (by
        rw [r1, e]
        exact List.mem_map.mpr ⟨_, hm, rfl⟩)
      obtain ⟨u, dv2, g1, g2, g3⟩ := txE_value t nd.2 hm
      refine ⟨u, dv2, ?_, g2, g3⟩
      unfold valueAt at g1 ⊢
      rw [List.find?_cons_of_neg (by simpa using hne)]
      exact g1
theorem md_popD : MtR X "dict.pop" (rMD X dPopD) := by
  intro pins s σ H x xs v us Q I rx rs ⟨ρ, S, d, ds, R, W, r1, r2, ⟨l, ep, kvs, y, dv, e1, e2, h1, hk, hm, q⟩, p⟩
  subst e1 e2
  obtain ⟨a, h3, rfl⟩ := r1.loc_of
  cases (show v = Value.ref a from rx)
  have hO := W.obj l a _ h3 h1
  obtain ⟨qs, g1, g2, g3, g4⟩ := tx_dict I hO hk
  obtain ⟨es, ks, T⟩ := dat_of I hO
  obtain ⟨_, _, hnd, _⟩ := hO
  obtain ⟨xv, rfl, k1⟩ := r2.one_of
  cases k1.str_of
  cases rs with
  | @cons _ u _ _ r3 t =>
  cases t
  obtain ⟨t, rfl⟩ := (show ∃ t, u = Value.str y t from r3)
  obtain ⟨w, vv, w1, w2, w3⟩ := txE_value g4 hnd hm
  have hl : qs.length = kvs.length := by have := congrArg List.length (txE_nodup g4); simpa using this.symm
  have hi : (strKind X.prog X.w).is y (Value.str y t) = true := by
    show Value.isStrOf y (Value.str y t) = true
    simp [Value.isStrOf]
  refine call_meetsIn F.slot_dict_pop T.rw.ty F.entry_dict_pop (F.args_dict_pop_2 _ _) (PySem.meets_dict_pop_there (strKind X.prog X.w) a hi [] (.inl rfl) rfl) ⟨qs, w, g3, by rw [hl]; exact g2, w1, fun h' hd hs => ?_⟩
  obtain ⟨o, es', ep', ho, hx, hdat, hks, hpr, _⟩ := hd
  have hob : DictObj a es' ep' h' := ⟨o, ho, hx, hdat⟩
  have vx : VX ρ H ρ (upd H a (.ext (DictObj a es' ep'))) := vx_dict T.ext
  have nd' : ((cutK kvs y).map fun p => keyOf p.1).Nodup := (List.filter_sublist.map _).nodup hnd
  have hO' : OR X.w X.K X.mg ρ (upd H a (.ext (DictObj a es' ep'))) a (.dct ep' (cutK kvs y)) := by
    refine ⟨g1, Nat.le_trans (List.length_filter_le _ _) g2, nd', es', upd_same, ?_⟩
    refine Paired.mapP (tx_ent (txE_without g4) hpr fun e he => ?_) fun p e z => z.vx vx
    exact hks e (Array.mem_toList_iff.mp he)
  exact ⟨vv, _, T.write I hob hs, w3, p _ _ (q ep') ρ _ _ (ext_write (List.mem_of_getElem? h3)) (W.write h3 hO') (VR.vx vx _ _ w2)⟩
end
theorem dPopD_loc {l ep : Nat} {kvs : List (D × D)} {x : Str} {v : D} {S : Sto} {R : DQ} (h1 : S[l]? = some (.dct ep kvs)) (h2 : ∀ p ∈ kvs, ∃ y, p.1 = .str y) (h3 : (D.str x, v) ∈ kvs) (q : ∀ ep', R v (S.set l (.dct ep' (cutK kvs x)))) : dPopD (.loc l) [.str x] S R := ⟨l, ep, kvs, x, v, rfl, rfl, h1, h2, h3, q⟩
end Dl

namespace PySem.SeqAt
open AutoSeq1 (wpAny_loadPart')
open MeetsSeq MeetsSeq2 MeetsSeq3

/-! ## xs != ys, lists of lists and dicts that are the same place by place -/
/-- the two are the same, in this program and world -/
def SameIn (P : Program) (W : World) (A : Around) (s : Shared) (u v : Value) : Prop := ∀ (E : Value → Shared → Prop) (Q : Bool → Shared → Prop), Q true s → wpAny (model P W) A (eqBool u v) Q E s
theorem SameIn.refs {P : Program} {W : World} {A : Around} {s : Shared} {a b : Addr} (h : ∀ (E Q : Value → Shared → Prop), Q (.bool true) s → wpAny (model P W) A (richCompare .Eq (.ref a) (.ref b)) Q E s) : SameIn P W A s (.ref a) (.ref b) := fun E Q q => by
  unfold eqBool
  refine wpAny_holding (wpAny_ite_split (fun _ => wpAny_bind (wpAny_rule (wpAny_pure q))) fun _ => wpAny_bind (h E _ (wpAny_truthy_bool q)))
theorem SameIn.at_ {P : Program} {W : World} {A : Around} {s : Shared} {u v : Value} (h : EqAt A s u v true) : SameIn P W A s u v := fun E Q q => h P W E Q q
theorem same_loop (P : Program) (W : World) (a b : Addr) (us vs : Array Value) (n1 n2 : Nat) (c1 c2 : Option Addr) (z1 z2 : Array (Option Value)) (hs : us.size = vs.size) : ∀ (k i : Nat), us.size - i = k →
    MeetsIn P W (Builtin.«list.__eq__.loop» ⟨[.ref a, .ref b, rawInt i, rawInt 3], []⟩) (fun A R s => s.heap.get? a = some { cls := .type "list", dict := c1, data := .seq us n1, slots := z1 } ∧ s.heap.get? b = some { cls := .type "list", dict := c2, data := .seq vs n2, slots := z2 } ∧
      (∀ j (q1 : j < us.size) (q2 : j < vs.size), SameIn P W A.in1 s us[j] vs[j]) ∧ R (.ok (.ret (.bool false))) s)
  | 0, i, hk => by
    rintro A R s ⟨ga, gb, he, fin⟩
    obtain ⟨hp, g, d, tk, os⟩ := s
    wp_walk using wpAny_loadPart' ga, wpAny_loadPart' gb
    have e1 : us[((i : Nat) : Int).toNat]? = none := by simp; omega
    have e2 : vs[((i : Nat) : Int).toNat]? = none := by simp; omega
    rw [e1, e2]
    wp_walk using wpAny_loadPart' ga, wpAny_loadPart' gb
    show R (.ok (.ret (.bool (us.size != vs.size)))) _
    rw [hs]
    simpa using fin
  | k + 1, i, hk => by
    rintro A R s ⟨ga, gb, he, fin⟩
    obtain ⟨hp, g, d, tk, os⟩ := s
    wp_walk using wpAny_loadPart' ga, wpAny_loadPart' gb
    have l1 : i < us.size := by omega
    have l2 : i < vs.size := by omega
    have e1 : us[((i : Nat) : Int).toNat]? = some us[i] := by simp [l1]
    have e2 : vs[((i : Nat) : Int).toNat]? = some vs[i] := by simp [l2]
    have e3 : ((i : Int) + 1) = ((i + 1 : Nat) : Int) := by push_cast; rfl
    rw [e1, e2]
    refine wpAny_bind (he i l1 l2 _ _ ?_)
    wp_walk
    rw [e3]
    refine ⟨plainId_quiet plain_eq_loop _, codeAny_builtin entry_eq_loop ?_⟩
    rw [Around.under_plainId plain_eq_loop _]
    exact same_loop P W a b us vs n1 n2 c1 c2 z1 z2 hs k (i + 1) (by omega) A R _ ⟨ga, gb, he, fin⟩
theorem same_lists (P : Program) (W : World) (a b : Addr) (us vs : Array Value) (n1 n2 : Nat) (c1 c2 : Option Addr) (z1 z2 : Array (Option Value)) (hs : us.size = vs.size) :
    MeetsIn P W (Builtin.«list.__ne__» ⟨[.ref a, .ref b], []⟩) (fun A R s => s.heap.get? a = some { cls := .type "list", dict := c1, data := .seq us n1, slots := z1 } ∧ s.heap.get? b = some { cls := .type "list", dict := c2, data := .seq vs n2, slots := z2 } ∧
      (∀ j (q1 : j < us.size) (q2 : j < vs.size), SameIn P W A.in1 s us[j] vs[j]) ∧ R (.ok (.ret (.bool false))) s) := by
  rintro A R s ⟨ga, gb, he, fin⟩
  obtain ⟨hp, g, d, tk, os⟩ := s
  have sub := AutoSeq1.sub_list_list
  have hne : ¬ (us.size != vs.size) = true := by simp [hs]
  wp_walk using wpAny_loadPart' ga, wpAny_loadPart' gb
  refine ⟨plainId_quiet plain_eq_loop _, codeAny_builtin entry_eq_loop ?_⟩
  rw [Around.under_plainId plain_eq_loop _]
  exact same_loop P W a b us vs n1 n2 c1 c2 z1 z2 hs _ 0 rfl A R _ ⟨ga, gb, he, fin⟩
theorem ne_lists_in {P : Program} {W : World} {A : Around} {s : Shared} {a b : Addr} {us vs : Array Value} {E Q : Value → Shared → Prop} (hl : s.heap.IsList a us) (hb : s.heap.IsList b vs) (hs : us.size = vs.size) (hu : A.units < cLine)
    (he : ∀ j (q1 : j < us.size) (q2 : j < vs.size), SameIn P W A.in1 s us[j] vs[j]) (q : Q (.bool false) s) : wpAny (model P W) A (richCompare .NotEq (.ref a) (.ref b)) Q E s := by
  obtain ⟨⟨k1, d1, t1, z1⟩, o1, rfl, n1, rfl⟩ := id hl
  obtain ⟨⟨k2, d2, t2, z2⟩, o2, rfl, n2, rfl⟩ := id hb
  have hin : (wants (fun v s' => v ≠ Value.notImplemented ∧ Q v s') E) (.ok (.ret (.bool false))) s := show Value.bool false ≠ Value.notImplemented ∧ Q (.bool false) s from ⟨(fun x => nomatch x), q⟩
  exact wpAny_richCompare_same_room (op := .NotEq) ⟨_, o1, rfl⟩ ⟨_, o2, rfl⟩ F.slot_list_ne (call_meetsIn F.slot_list_ne ⟨_, o1, rfl⟩ F.entry_list_ne (F.args_list_ne_2 _ _) (same_lists P W a b us vs n1 n2 d1 d2 z1 z2 hs) ⟨o1, o2, he, hin⟩) hu
end PySem.SeqAt
namespace Dl
open PySem L2 PyProof.Rows PySem.Spec
/-- two lists, or two dicts, that are the same -/
def sameD (S : Sto) (d1 d2 : D) : Prop := ∃ i j, d1 = .loc i ∧ d2 = .loc j ∧ ((∃ e1 e2 k1 k2, S[i]? = some (.dct e1 k1) ∧ S[j]? = some (.dct e2 k2) ∧ eqK k1 k2 = some true) ∨ ∃ xs, S[i]? = some (.lst xs) ∧ S[j]? = some (.lst xs) ∧ plainsD 100 xs = true)
def dNeP : DOp := fun d1 d2 S R => ∃ i j xs ys, d1 = .loc i ∧ d2 = .loc j ∧ S[i]? = some (.lst xs) ∧ S[j]? = some (.lst ys) ∧ All2 (sameD S) xs ys ∧ R (.bl false) S
section
variable {X : Cx} {pins : List (Addr × Obj)} {σ : L2.St} {H : Hp} {s : Shared} {ρ : List Addr} {S : Sto}
theorem sameD_in {A : Around} (hu : A.units + 142 < cLine) (I : L2.Inv X pins σ H s) (W : XW X ρ S H) {d1 d2 : D} {v1 v2 : V} {u1 u2 : Value} (h : sameD S d1 d2) (r1 : VR X.K ρ H d1 v1) (r2 : VR X.K ρ H d2 v2) (q1 : RelV v1 u1) (q2 : RelV v2 u2) : SeqAt.SameIn X.prog X.w A s u1 u2 := by
  obtain ⟨i, j, rfl, rfl, h⟩ := h
  obtain ⟨a, c1, rfl⟩ := r1.loc_of
  obtain ⟨b, c2, rfl⟩ := r2.loc_of
  cases (show u1 = Value.ref a from q1)
  cases (show u2 = Value.ref b from q2)
  rcases h with ⟨e1, e2, k1, k2, h1, h2, h3⟩ | ⟨xs, h1, h2, h3⟩
  · obtain ⟨es1, ks1, T1⟩ := dat_of I (W.obj i a _ c1 h1)
    obtain ⟨es2, ks2, T2⟩ := dat_of I (W.obj j b _ c2 h2)
    refine .refs fun E Q q => nd_rc .Eq true (by omega) I T1 T2 h3 (.inl ⟨rfl, rfl⟩) (by simpa using q)
  · obtain ⟨vs, g1, g2⟩ := W.obj i a _ c1 h1
    obtain ⟨ws, g3, g4⟩ := W.obj j b _ c2 h2
    obtain ⟨its, rv, pl, hz⟩ := I.list (.inl (.inl g1))
    obtain ⟨its2, rv2, pl2, hz2⟩ := I.list (.inl (.inl g3))
    obtain ⟨k1, e1, _⟩ := keys_plain 100 xs h3
    have d1 := depth_plain h3 e1
    have := (rcAt_lists (A := A) pl.isList pl2.isList (by simpa using nested_of.go I xs k1 vs its e1 g2 rv) (by simpa using nested_of.go I xs k1 ws its2 e1 g4 rv2) (by omega)).1
    rw [beqAll_plain h3 h3 e1 e1] at this
    exact .refs fun E Q q => this X.prog X.w E Q (by simpa using q)
theorem sames_in {A : Around} (hu : A.units + 142 < cLine) (I : L2.Inv X pins σ H s) (W : XW X ρ S H) : ∀ {xs ys : List D} {vs ws : List V} {us zs : List Value}, All2 (sameD S) xs ys → VRs X.K ρ H xs vs → VRs X.K ρ H ys ws → Vals vs us → Vals ws zs → us.length = zs.length ∧ ∀ (j : Nat) (h1 : j < us.length) (h2 : j < zs.length), SeqAt.SameIn X.prog X.w A s us[j] zs[j]
  | _, _, _, _, _, _, .nil, r1, r2, q1, q2 => by
    unfold VRs at r1 r2
    subst r1 r2
    cases q1
    cases q2
    exact ⟨rfl, fun j h => by simp at h⟩
  | x :: xs, y :: ys, _, _, _, _, .cons h t, r1, r2, q1, q2 => by
    unfold VRs at r1 r2
    obtain ⟨v, vs, rfl, a1, a2⟩ := r1
    obtain ⟨w, ws, rfl, b1, b2⟩ := r2
    cases q1 with
    | cons p1 t1 =>
    cases q2 with
    | cons p2 t2 =>
    obtain ⟨g1, g2⟩ := sames_in hu I W t a2 b2 t1 t2
    refine ⟨by simp [g1], fun j h1 h2 => ?_⟩
    cases j with
    | zero => exact sameD_in hu I W h a1 b1 p1 p2
    | succ j => exact g2 j (by simpa using h1) (by simpa using h2)
end
section
variable {X : Cx}
theorem od_neP (hu : X.A.units + 150 < cLine) : OpR X (compareOp .NotEq) (rD X dNeP) := fun pins s σ H x y v u Q I rx ry ⟨ρ, S, d1, d2, R, W, r1, r2, ⟨i, j, xs, ys, e1, e2, h1, h2, h3, q⟩, p⟩ => by
  subst e1 e2
  obtain ⟨a, c1, rfl⟩ := r1.loc_of
  obtain ⟨b, c2, rfl⟩ := r2.loc_of
  cases (show v = Value.ref a from rx)
  cases (show u = Value.ref b from ry)
  obtain ⟨vs, g1, g2⟩ := W.obj i a _ c1 h1
  obtain ⟨ws, g3, g4⟩ := W.obj j b _ c2 h2
  obtain ⟨its, rv, pl, hz⟩ := I.list (.inl (.inl g1))
  obtain ⟨its2, rv2, pl2, hz2⟩ := I.list (.inl (.inl g3))
  obtain ⟨f1, f2⟩ := sames_in (A := X.A.in1) (by show X.A.units + 1 + 142 < _; omega) I W h3 g2 g4 rv rv2
  have fin : EP X pins σ Q (.bool false) s := ⟨.bl false, H, I, rfl, p _ _ q ρ H _ (Ext.refl _ _) W .bl⟩
  show wpAny _ _ (richCompare .NotEq (.ref a) (.ref b)) _ _ _
  refine SeqAt.ne_lists_in pl.isList pl2.isList (by simpa using f1) (by omega) (fun j q1 q2 => ?_) fin
  have := f2 j (by simpa using q1) (by simpa using q2)
  simpa using this
end
theorem dNeP_loc {i j : Nat} {xs ys : List D} {S : Sto} {R : DQ} (h1 : S[i]? = some (.lst xs)) (h2 : S[j]? = some (.lst ys)) (h : All2 (sameD S) xs ys) (q : R (.bl false) S) : dNeP (.loc i) (.loc j) S R := ⟨i, j, xs, ys, rfl, rfl, h1, h2, h, q⟩
end Dl

namespace L2
open PySem PySem.Spec PyProof.Rows HT

/-! ## a tuple turned about: t[::-1] -/
theorem back_ends (n : Nat) : Builtin.Slice.sliceAdjust none none (-1) (n : Int) = ((n : Int) - 1, -1) := by
  unfold Builtin.Slice.sliceAdjust
  simp
theorem back_many (n : Nat) : Builtin.Slice.slicePlaces ((n : Int) - 1) (-1) (-1) = n := by
  unfold Builtin.Slice.slicePlaces
  simp
  try omega
section
variable {prog : Program} {w : World} {A : Around} {E : Value → Shared → Prop} {s : Shared}
theorem back_applied {c : Addr} {n : Nat} {v : Value} {Q : Int × Int × Nat → Shared → Prop} (hs : s.heap.IsSliceOf c .none .none v) (pv : IsPart v (some (-1))) (q : Q ((n : Int) - 1, -1, n) s) : wpAny (model prog w) A (Builtin.Slice.sliceApplied (.ref c) (pure (n : Int))) Q E s := by
  obtain ⟨ob, ho, _, hd⟩ := id hs
  unfold Builtin.Slice.sliceApplied Builtin.Slice.sliceFields
  refine wpAny_bind (wpAny_bind (wpAny_field ho hd (x := .none) rfl (wpAny_bind (wpAny_field ho hd (x := .none) rfl (wpAny_bind (wpAny_field ho hd (x := v) rfl (wpAny_pure ?_)))))))
  refine wpAny_bind (slicePart_ pv ?_)
  show wpAny _ _ (if ((-1 : Int) == 0) = true then _ else _) _ _ s
  rw [if_neg (by decide)]
  refine wpAny_bind (slicePart_ .none (wpAny_bind (slicePart_ .none (wpAny_bind (wpAny_pure ?_)))))
  show wpAny _ _ (match Builtin.Slice.sliceAdjust none none (-1) (n : Int) with | (a, b) => pure (a, (-1 : Int), Builtin.Slice.slicePlaces a b (-1))) _ _ s
  rw [back_ends]
  show wpAny _ _ (pure ((n : Int) - 1, (-1 : Int), Builtin.Slice.slicePlaces ((n : Int) - 1) (-1) (-1))) _ _ s
  rw [back_many]
  exact wpAny_pure q
theorem fm_congr {α β : Type} {f g : α → Option β} : ∀ l : List α, (∀ a ∈ l, f a = g a) → l.filterMap f = l.filterMap g
  | [], _ => rfl
  | a :: l, h => by
    rw [List.filterMap_cons, List.filterMap_cons, h a List.mem_cons_self, fm_congr l fun b hb => h b (List.mem_cons_of_mem _ hb)]
theorem back_pick (xs : List Value) : (List.range xs.length).filterMap (fun (k : Nat) => xs.toArray[((xs.length : Int) - 1 + (k : Int) * (-1)).toNat]?) = xs.reverse := by
  have h1 : ∀ k ∈ List.range xs.length, (fun (k : Nat) => xs.toArray[((xs.length : Int) - 1 + (k : Int) * (-1)).toNat]?) k = (fun k => xs.reverse[k]?) k := by
    intro k hk
    have hk' : k < xs.length := List.mem_range.mp hk
    have e : ((xs.length : Int) - 1 + (k : Int) * (-1)).toNat = xs.length - 1 - k := by omega
    simp only [e]
    rw [List.getElem?_reverse hk']
    simp
  rw [fm_congr _ h1]
  have h2 : ∀ ys : List Value, (List.range ys.length).filterMap (fun k => ys[k]?) = ys := by
    intro ys
    induction ys with
    | nil => rfl
    | cons y ys ih =>
      rw [List.length_cons, List.range_succ_eq_map, List.filterMap_cons]
      simp only [List.getElem?_cons_zero]
      rw [List.filterMap_map]
      have e : ((fun k => (y :: ys)[k]?) ∘ Nat.succ) = fun k => ys[k]? := by
        funext k
        simp
      rw [e, ih]
  have := h2 xs.reverse
  rwa [List.length_reverse] at this
theorem back_get {t c : Addr} {xs : List Value} {v : Value} {Q : Value → Shared → Prop} (ht : IsTup s.heap t xs.toArray) (hs : s.heap.IsSliceOf c .none .none v) (pv : IsPart v (some (-1))) (hz : xs.length ≤ sizeLine)
    (q : Q (.ref s.heap.objs.size) { s with heap := s.heap.push { cls := .type "tuple", data := .seq xs.reverse.toArray } }) : wpAny (model prog w) A (getItem (.ref t) (.ref c)) Q E s := by
  have hk : sizeOk (.seq xs.reverse.toArray) := by
    show xs.reverse.toArray.size ≤ sizeLine
    rw [List.size_toArray, List.length_reverse]
    exact hz
  obtain ⟨ob, ho, hc, hd⟩ := id hs
  have ty : s.TypeIs (.ref c) "slice" := ⟨ob, ho, hc⟩
  unfold getItem
  try with_reducible refine wpAny_holding ?_
  first | refine wpAny_bind (wpAny_pure ?_) | skip
  refine wpAny_bind (wpAny_sequenceKey ht.typeIs (by decide) (wpAny_bind (wpAny_callSpecial?_slot (name := Str.ofString "__getitem__") ht.typeIs PyProof.Rows.slot_tuple_getitem (wpAny_call_entry PyProof.Rows.slot_tuple_getitem ht.typeIs entry_tuple_getitem ?_ (args_tuple_getitem _ _)))))
  show wpAny _ _ (Builtin.Tuple.tupleItemsOf (.ref t) >>= _) _ _ s
  refine wpAny_bind (tupleItemsOf_ ht (wpAny_bind (wpAny_typeOf ty ?_)))
  rw [if_pos (by decide)]
  refine wpAny_bind (back_applied hs pv ?_)
  have no : ¬ (((xs.toArray.size : Int) - 1 == 0 && (-1 : Int) == 1 && xs.toArray.size == xs.toArray.size) = true) := by
    intro z
    rw [Bool.and_eq_true, Bool.and_eq_true] at z
    exact absurd z.1.2 (by decide)
  show wpAny _ _ (if ((xs.toArray.size : Int) - 1 == 0 && (-1 : Int) == 1 && xs.toArray.size == xs.toArray.size) = true then _ else _) _ _ s
  rw [if_neg no]
  have ep : (List.range xs.toArray.size).filterMap (fun (k : Nat) => xs.toArray[((xs.toArray.size : Int) - 1 + (k : Int) * (-1)).toNat]?) = xs.reverse := by
    have := back_pick xs
    simpa only [List.size_toArray] using this
  rw [ep]
  first
    | exact wpAny_bind (m := Builtin.Tuple.tupleExact _) (wpAny_newObj_type (wpAny_pure ⟨_, rfl, wpAny_pure q⟩) hk)
    | exact wpAny_bind (wpAny_bind (m := Builtin.Tuple.tupleExact _) (wpAny_newObj_type (wpAny_pure ⟨_, rfl, wpAny_pure q⟩) hk))
    | exact wpAny_bind (wpAny_bind (m := Builtin.Tuple.tupleExact _) (wpAny_newObj_type (wpAny_pure (wpAny_pure ⟨_, rfl, wpAny_pure q⟩)) hk))
end
def tRevT (K : PySem.W.Frag) (te : TE) : TE := fun σ H Q => te σ H fun x H1 => ∃ a xs, x = .ref a ∧ SqT K H1 a xs ∧ ∀ p, H1 p = none → Q (.ref p) (upd H1 p (.tup xs.reverse))
theorem pe_revT {X : Cx} {e : Expr} {te : TE} {k : Nat} {q1 q2 q3 pos : Pos} (he : PE X e te) : PE X (.Subscript e (.Slice none none (some (.UnaryOp .USub (.Constant (.int 1) k q1) q2)) q3) pos) (tRevT X.K te) := by
  refine ⟨fun pins s σ H Q I h => Subscript_ (thn (he.run pins s σ H _ I h) fun v s1 ⟨x, H1, I1, r1, a, xs, ex, hx, fin⟩ => ?_)⟩
  subst ex
  cases r1
  have hst : PO X (some (.UnaryOp .USub (.Constant (.int 1) k q1) q2)) (tPart (tUn (rU fun i => .int (-i)) (tC (.int 1)))) := po_some (pe_un un_neg pe_int)
  refine wpAny_Slice (thn (po_none.run pins s1 σ H1 (fun o G => o = none ∧ G = H1) I1 ⟨rfl, rfl⟩) fun v2 s2 ⟨o2, G2, I2, p2, z2, y2⟩ => ?_)
  subst z2 y2
  refine thn (po_none.run pins s2 σ G2 (fun o G => o = none ∧ G = G2) I2 ⟨rfl, rfl⟩) fun v3 s3 ⟨o3, G3, I3, p3, z3, y3⟩ => ?_
  subst z3 y3
  refine thn (hst.run pins s3 σ G3 (fun o G => o = some (-1) ∧ G = G3) I3 ⟨1, rfl, -1, rfl, rfl, rfl⟩) fun v4 s4 ⟨o4, G4, I4, p4, z4, y4⟩ => ?_
  subst z4 y4
  have I5 : Inv X pins σ G4 { s4 with heap := s4.heap.push { cls := .type "slice", data := .fields #[v2, v3, v4] } } := I4.kept (t' := s4.toks) fun b ob q => Heap.get?_push_of_some _ q
  obtain ⟨its, r, ht, hz⟩ := I5.tuple hx
  have hl := r.length
  cases p2
  cases p3
  show wpAny (model X.prog X.w) X.A (subscriptTail e (.Slice none none (some (.UnaryOp .USub (.Constant (.int 1) k q1) q2)) q3) (.ref a) (.ref s4.heap.objs.size)) (EP X pins σ Q) X.xe { s4 with heap := s4.heap.push { cls := .type "slice", data := .fields #[.none, .none, v4] } }
  refine tail_any (ops := [.ref a, .ref s4.heap.objs.size]) ht.typeIs (PyProof.Rows.slot_tuple_getitem.lookup) ?_ (by with_unfolding_all rfl)
  refine back_get ht (Heap.IsSliceOf.new _ .none .none v4) p4 (by omega) ?_
  refine ⟨.ref _, _, I5.laid (t' := s4.toks) (o := .tup xs.reverse) (fun b ob q => Heap.get?_push_of_some _ q) (Nat.le_refl _) ?_, rfl, fin _ (I5.hok.fresh (Nat.le_refl _))⟩
  exact ⟨by rw [List.length_reverse]; exact hz, _, r.reverse, IsTup.new _ _⟩
end L2

namespace L2
open PySem PySem.Spec PyProof.Rows
open AutoSeq1 (wpAny_loadPart')

/-! ## a tuple once, or not at all -/
theorem once_mul (a : Addr) (xs : Array Value) (m : Nat) (d0 : Option Addr) (z : Array (Option Value)) (u : Tok) : Meets (Builtin.«tuple.__mul__» ⟨[.ref a, .int 1 u], []⟩) (fun _ R s => s.heap.get? a = some { cls := .type "tuple", dict := d0, data := .seq xs m, slots := z } ∧ R (.ok (.ret (.ref a))) s) :=
  .of_wp fun prog w A R s ⟨ho, q⟩ => by
    obtain ⟨hp, g, d, tk, os⟩ := s
    have ix := AutoSeq1.idx_int
    wp_walk using wpAny_loadPart' ho
    exact ⟨_, rfl, q⟩
theorem nought_mul (a : Addr) (xs : Array Value) (m : Nat) (d0 : Option Addr) (z : Array (Option Value)) (u : Tok) (hx : (xs.isEmpty || (0 : Int) == 1) = false) : Meets (Builtin.«tuple.__mul__» ⟨[.ref a, .int 0 u], []⟩) (fun _ R s => s.heap.get? a = some { cls := .type "tuple", dict := d0, data := .seq xs m, slots := z } ∧
    R (.ok (.ret (.ref s.heap.objs.size))) { s with heap := s.heap.push { cls := Value.type "tuple", data := Data.seq #[] }, toks := s.toks }) :=
  .of_wp fun prog w A R s ⟨ho, q⟩ => by
    obtain ⟨hp, g, d, tk, os⟩ := s
    have ix := AutoSeq1.idx_int
    wp_walk using wpAny_loadPart' ho
    refine wpAny_ite_false (decide_eq_false (by rw [hx]; exact Bool.false_ne_true)) ?_
    wp_walk using wpAny_loadPart' ho
    exact ⟨_, rfl, q⟩
/-- t * 1 is t, t * 0 is () -/
def rOnce (K : PySem.W.Frag) : R2 := fun x y H Q => ∃ a k xs, x = .ref a ∧ y = .int k ∧ SqT K H a xs ∧ xs ≠ [] ∧ ((k = 1 ∧ Q (.ref a) H) ∨ (k = 0 ∧ ∀ p, H p = none → Q (.ref p) (upd H p (.tup []))))
theorem op_once {X : Cx} : OpR X (binaryOp .Mult) (rOnce X.K) := by
  intro pins s σ H x y v u Q I rx ry h
  obtain ⟨a, k, xs, rfl, rfl, hT, hne, q⟩ := h
  cases rx
  obtain ⟨t, rfl⟩ := ry
  obtain ⟨its, r, ⟨⟨c, d0, da, z⟩, ho, hc, m, hd⟩, hs⟩ := I.tuple hT
  simp only at hc hd
  subst hc hd
  have hi : its.toArray.isEmpty = false := by
    cases its with
    | nil => exact absurd (List.eq_nil_of_length_eq_zero r.length) hne
    | cons _ _ => rfl
  have go : (wpAny (model X.prog X.w) X.A (call (.builtin "tuple.__mul__") [.ref a, .int k t]) (EP X pins σ Q) X.xe s) → wpAny (model X.prog X.w) X.A (binaryOp .Mult (.ref a) (.int k t)) (EP X pins σ Q) X.xe s := fun w => by
    refine wpAny_binaryOp_repeat_ref (T := "tuple") (U := "int") (by decide) ⟨_, ho, rfl⟩ (fun s' => typeIs_int s' k t) noFill_tuple_mul F.fills_int_mul F.slot_int_rmul repeat_tuple F.slot_int_index.lookup
      (call_meets F.slot_int_rmul (typeIs_int s k t) F.entry_int_rmul (F.args_int_rmul_2 _ _) (int_rmul_tuple k t a its.toArray m d0 z) ⟨ho, rfl, ⟨_, ho, rfl⟩, w⟩)
  rcases q with ⟨rfl, q⟩ | ⟨rfl, q⟩
  · exact go (call_meets F.slot_tuple_mul ⟨_, ho, rfl⟩ F.entry_tuple_mul (F.args_tuple_mul_2 _ _) (once_mul a its.toArray m d0 z t) ⟨ho, .ref a, H, I, rfl, q⟩)
  · refine go (call_meets F.slot_tuple_mul ⟨_, ho, rfl⟩ F.entry_tuple_mul (F.args_tuple_mul_2 _ _) (nought_mul a its.toArray m d0 z t (by rw [hi]; rfl)) ⟨ho, ?_⟩)
    refine ⟨.ref _, _, I.laid (t' := s.toks) (o := .tup []) (fun b ob e => Heap.get?_push_of_some _ e) (Nat.le_refl _) ?_, rfl, q _ (I.hok.fresh (Nat.le_refl _))⟩
    exact ⟨Nat.zero_le _, _, .nil, IsTup.new _ _⟩
end L2
namespace Dl
open PySem L2 PyProof.Rows PySem.Spec
section
variable {X : Cx} {e : Expr} {we : WE}
def dOnce : DOp := fun d1 d2 S R => ∃ xs k, d1 = .tup xs ∧ d2 = .int k ∧ xs ≠ [] ∧ ((k = 1 ∧ R (.tup xs) S) ∨ (k = 0 ∧ R (.tup []) S))
theorem od_once : OpR X (binaryOp .Mult) (rD X dOnce) := OpR.imp op_once fun x y H Q ⟨ρ, S, d1, d2, R, W, r1, r2, ⟨xs, k, e1, e2, h0, q⟩, p⟩ => by
  subst e1 e2
  unfold VR at r1
  obtain ⟨a, vs, rfl, h2, h3⟩ := r1
  have hl := h3.length
  refine ⟨a, k, vs, rfl, r2.int_of, h2.sq, fun e => h0 (by subst e; exact List.length_eq_zero_iff.mp (by simpa using hl.symm)), ?_⟩
  rcases q with ⟨rfl, q⟩ | ⟨rfl, q⟩
  · exact .inl ⟨rfl, p _ _ q ρ H _ (Ext.refl _ _) W (.tup h2 h3)⟩
  · exact .inr ⟨rfl, fun c hc => new_tup W .nil q p hc⟩
def dMulA : DOp := opOr dMulT dOnce
theorem od_mulA : OpR X (binaryOp .Mult) (rD X dMulA) := OpD.or od_mulT od_once
theorem dMulA_ap {xs : List D} {k : Int} {S : Sto} {R : DQ} (hx : xs ≠ []) (h0 : 0 ≤ k) (h1 : k ≤ 1000) (hl : xs.length ≤ 1000) (q : R (.tup (List.replicate k.toNat xs).flatten) S) : dMulA (.tup xs) (.int k) S R := by
  by_cases c0 : k = 0
  · subst c0
    exact .inr ⟨xs, 0, rfl, rfl, hx, .inr ⟨rfl, by simpa using q⟩⟩
  by_cases c1 : k = 1
  · subst c1
    exact .inr ⟨xs, 1, rfl, rfl, hx, .inl ⟨rfl, by simpa using q⟩⟩
  · exact .inl ⟨xs, k, rfl, rfl, hx, by omega, h1, hl, q⟩
/-- t[::-1] -/
def wRevT (we : WE) : WE := fun τ S R => we τ S fun d S1 => ∃ xs, d = .tup xs ∧ R (.tup xs.reverse) S1
theorem VRs.rev {K : PySem.W.Frag} {ρ : List Addr} {H : Hp} : ∀ {ds : List D} {vs : List V}, VRs K ρ H ds vs → VRs K ρ H ds.reverse vs.reverse
  | [], _, h => by
    unfold VRs at h
    subst h
    exact .nil
  | d :: ds, _, h => by
    unfold VRs at h
    obtain ⟨v, vs, rfl, h1, h2⟩ := h
    rw [List.reverse_cons, List.reverse_cons]
    exact h2.rev.append (.cons h1 .nil)
theorem de_revT {k : Nat} {q1 q2 q3 pos : Pos} (he : PE X e (dE X we)) : PE X (.Subscript e (.Slice none none (some (.UnaryOp .USub (.Constant (.int 1) k q1) q2)) q3) pos) (dE X (wRevT we)) :=
  PE.imp (pe_revT he) fun σ H Q ⟨ρ, τ, S, R, W, er, h, p⟩ => ⟨ρ, τ, S, _, W, er, h, fun d S1 ⟨xs, e1, h1⟩ ρ1 H1 v x1 W1 r => by
    subst e1
    unfold VR at r
    obtain ⟨a, vs, rfl, h2, h3⟩ := r
    exact ⟨a, vs, rfl, h2.sq, fun c hc => new_tup W1 (VRs.rev h3) h1 (p.ext W1 x1) hc⟩⟩
end
@[simp ↓] theorem wRevT_ap {we : WE} {τ : DEnv} {S : Sto} {R : DQ} : wRevT we τ S R = we τ S fun d S1 => ∃ xs, d = .tup xs ∧ R (.tup xs.reverse) S1 := rfl
/-- t == () -/
def dEqE : DOp := fun d1 d2 S R => ∃ xs, d1 = .tup xs ∧ d2 = .tup [] ∧ R (.bl xs.isEmpty) S
theorem od_eqE {X : Cx} (hu : X.A.units + 150 < cLine) : OpR X (compareOp .Eq) (rD X dEqE) := fun pins s σ H x y v u Q I rx ry ⟨ρ, S, d1, d2, R, W, r1, r2, ⟨xs, e1, e2, q⟩, p⟩ => by
  subst e1 e2
  unfold VR at r1 r2
  obtain ⟨a, vs, rfl, h2, h3⟩ := r1
  obtain ⟨b, ws, rfl, h4, h5⟩ := r2
  unfold VRs at h5
  subst h5
  cases (show v = Value.ref a from rx)
  cases (show u = Value.ref b from ry)
  obtain ⟨its, rv, t1, z1⟩ := I.tuple h2.sq
  obtain ⟨its2, rv2, t2, z2⟩ := I.tuple h4.sq
  cases rv2
  have hl := h3.length
  have hl2 := rv.length
  have rc := SeqAt.RcAt.tuples (A := X.A) (e := fun _ => true) t1 t2 (by omega) (fun j j1 j2 => absurd j2 (Nat.not_lt_zero j))
  have e : ((List.range (min its.toArray.size ([] : List Value).toArray.size)).all (fun _ => true) && its.toArray.size == ([] : List Value).toArray.size) = xs.isEmpty := by
    cases xs with
    | nil =>
      have : its = [] := List.eq_nil_of_length_eq_zero (by rw [← hl2, hl]; rfl)
      subst this
      rfl
    | cons x xs =>
      cases its with
      | nil => rw [hl] at hl2; cases hl2
      | cons _ _ => simp
  rw [e] at rc
  exact rc X.prog X.w _ _ ⟨.bl xs.isEmpty, H, I, by cases xs <;> rfl, p _ _ q ρ H _ (Ext.refl _ _) W .bl⟩
@[simp] theorem dEqE_ap {xs : List D} {S : Sto} {R : DQ} : dEqE (.tup xs) (.tup []) S R = R (.bl xs.isEmpty) S := by simp [dEqE]
end Dl

namespace Kk24
open PySem L2 Dl
/-- shape_of(atom): slots 0 atom -/
def w_shape_of : WS :=
  (wRet (wTup (wCons (wOp dIx (wVar 0) (wC (.int 0))) (wCons (wOp dSub (wCB dLen (wCons (wVar 0) wNil)) (wC (.int 1))) wNil))))
/-- rule_shape(rule): slots 0 rule, 1 word, 2 many -/
def w_rule_shape (sp_shape_of : DSp) : WS :=
  (wSeq (wAsg (wCall sp_shape_of (wCons (wOp dIx (wVar 0) (wC (.int 0))) wNil)) (wgTup 2 (wgCons (wgName 1) (wgCons (wgName 2) wgNil))))
  (wSeq (wIfS (wTest (wOp dIsNotN (wOp dIx (wVar 0) (wC (.int 1))) (wC .non)))
    (wAug 2 (wC (.int 1)) dIAdd)
    wSkip)
  (wRet (wTup (wCons (wVar 1) (wCons (wVar 2) wNil))))))
/-- looked_at(rule): slots 0 rule, 1 found, 2 part -/
def w_looked_at (sp_shape_of : DSp) : WS :=
  (wSeq (wAsg (wLst wNil) (wgName 1))
  (wSeq (wFor (wiAny (wOp dIx (wVar 0) (wC (.int 2)))) (wgName 2)
    (wIfS (wTest (wOp dIn (wOp dIx (wVar 2) (wC (.int 0))) (wTup (wCons (wC (.str "is")) (wCons (wC (.str "not")) wNil)))))
    (wDrop (wMt "list" dAppend (wVar 1) (wCons (wTup (wCons (wCall sp_shape_of (wCons (wOp dIx (wVar 2) (wC (.int 1))) wNil)) (wCons (wCB dInt1 (wCons (wOrV (wOp dEq (wOp dIx (wVar 2) (wC (.int 0))) (wC (.str "not"))) (wOp dIsNotN (wOp dIx (wVar 0) (wC (.int 1))) (wC .non))) wNil)) wNil))) wNil)))
    wSkip))
  (wRet (wVar 1))))
/-- two_of_one_shape(rules): slots 0 rules, 1 j, 2 other, 3 i, 4 grouped -/
def w_two_of_one_shape (sp_rule_shape : DSp) : WS :=
  (wSeq (wFor (wiEnumA (wCons (wVar 0) wNil)) (wgTup 2 (wgCons (wgName 1) (wgCons (wgName 2) wgNil)))
    (wFor (wiRange1 (wCons (wVar 1) wNil)) (wgName 3)
    (wSeq (wAsg (wOrV (wOp dIsNotN (wOp dIx (wOp dIx (wVar 0) (wVar 3)) (wC (.int 1))) (wC .non)) (wOp dIsNotN (wOp dIx (wVar 2) (wC (.int 1))) (wC .non))) (wgName 4))
  (wIfS (wAnd (wTruth (wVar 4)) (wTest (wOp dEq (wCall sp_rule_shape (wCons (wOp dIx (wVar 0) (wVar 3)) wNil)) (wCall sp_rule_shape (wCons (wVar 2) wNil)))))
    (wRet (wTup (wCons (wVar 3) (wCons (wVar 1) wNil))))
    wSkip))))
  (wRet (wC .non)))
/-- way_of_rules(rules, begin, goal): slots 0 rules, 1 begin, 2 goal, 3 ways, 4 waiting, 5 at, 6 k, 7 rule, 8 own, 9 shape, 10 step -/
def w_way_of_rules (sp_rule_shape : DSp) (sp_looked_at : DSp) : WS :=
  (wSeq (wAsg (wDct (wpCons (wVar 1) (wTup wNil) wpNil)) (wgName 3))
  (wSeq (wAsg (wLst (wCons (wVar 1) wNil)) (wgName 4))
  (wSeq (wAsg (wC (.int 0)) (wgName 5))
  (wSeq (wWhile (wTest (wOp dLt (wVar 5) (wCB dLen (wCons (wVar 4) wNil))))
    (wSeq (wFor (wiEnumA (wCons (wVar 0) wNil)) (wgTup 2 (wgCons (wgName 6) (wgCons (wgName 7) wgNil)))
    (wSeq (wAsg (wCall sp_rule_shape (wCons (wVar 7) wNil)) (wgName 8))
  (wIfS (wAnd (wTest (wOp dNotIn (wVar 8) (wVar 3))) (wTest (wOp dIn (wOp dIx (wVar 4) (wVar 5)) (wLc (wiAny (wCall sp_looked_at (wCons (wVar 7) wNil))) (wgTup 2 (wgCons (wgName 9) (wgCons (wgName 10) wgNil))) wYes (wVar 9) [9, 10]))))
    (wSeq (wAsg (wOp dAdd (wOp dIx (wVar 3) (wOp dIx (wVar 4) (wVar 5))) (wTup (wCons (wVar 6) wNil))) (wgSub (wVar 3) (wVar 8) dSet))
  (wDrop (wMt "list" dAppend (wVar 4) (wCons (wVar 8) wNil))))
    wSkip)))
  (wAug 5 (wC (.int 1)) dIAdd)))
  (wRet (wMtD dGetM (wVar 3) (wCons (wVar 2) wNil)))))))
/-- ring_of_rules(rules): slots 0 rules, 1 k, 2 rule, 3 shape, 4 step, 5 numbers -/
def w_ring_of_rules (sp_looked_at : DSp) (sp_way_of_rules : DSp) (sp_rule_shape : DSp) : WS :=
  (wSeq (wFor (wiEnumA (wCons (wVar 0) wNil)) (wgTup 2 (wgCons (wgName 1) (wgCons (wgName 2) wgNil)))
    (wFor (wiAny (wCall sp_looked_at (wCons (wVar 2) wNil))) (wgTup 2 (wgCons (wgName 3) (wgCons (wgName 4) wgNil)))
    (wIfS (wTest (wOp dGt (wVar 4) (wC (.int 0))))
    (wSeq (wAsg (wCall sp_way_of_rules (wCons (wVar 0) (wCons (wCall sp_rule_shape (wCons (wVar 2) wNil)) (wCons (wVar 3) wNil)))) (wgName 5))
  (wIfS (wTest (wOp dIsNotN (wVar 5) (wC .non)))
    (wRet (wOp dAdd (wTup (wCons (wVar 1) wNil)) (wVar 5)))
    wSkip))
    wSkip)))
  (wRet (wC .non)))
/-- bar(rules): slots 0 rules, 1 two, 2 ring -/
def w_bar (sp_two_of_one_shape : DSp) (sp_ring_of_rules : DSp) : WS :=
  (wSeq (wAsg (wCall sp_two_of_one_shape (wCons (wVar 0) wNil)) (wgName 1))
  (wSeq (wIfS (wTest (wOp dIsNotN (wVar 1) (wC .non)))
    (wRet (wOp dAdd (wTup (wCons (wC (.str "two")) wNil)) (wVar 1)))
    wSkip)
  (wSeq (wAsg (wCall sp_ring_of_rules (wCons (wVar 0) wNil)) (wgName 2))
  (wSeq (wIfS (wTest (wOp dIsNotN (wVar 2) (wC .non)))
    (wRet (wTup (wCons (wC (.str "ring")) (wCons (wVar 2) wNil))))
    wSkip)
  (wRet (wC .non))))))
/-- is_number(rules, thing): slots 0 rules, 1 thing -/
def w_is_number : WS :=
  (wRet (wAndV (wIsi "int" (wVar 1)) (wAndV (wNotV (wIsi "bool" (wVar 1))) (wChain dLe dLt (wC (.int 0)) (wVar 1) (wCB dLen (wCons (wVar 0) wNil))))))
/-- is_two(rules, i, j): slots 0 rules, 1 i, 2 j, 3 grouped -/
def w_is_two (sp_is_number : DSp) (sp_rule_shape : DSp) : WS :=
  (wSeq (wIfS (wOr (wNot (wTruth (wCall sp_is_number (wCons (wVar 0) (wCons (wVar 1) wNil))))) (wOr (wNot (wTruth (wCall sp_is_number (wCons (wVar 0) (wCons (wVar 2) wNil))))) (wTest (wOp dGe (wVar 1) (wVar 2)))))
    (wRet (wC (.bl false)))
    wSkip)
  (wSeq (wAsg (wOrV (wOp dIsNotN (wOp dIx (wOp dIx (wVar 0) (wVar 1)) (wC (.int 1))) (wC .non)) (wOp dIsNotN (wOp dIx (wOp dIx (wVar 0) (wVar 2)) (wC (.int 1))) (wC .non))) (wgName 3))
  (wRet (wAndV (wVar 3) (wOp dEq (wCall sp_rule_shape (wCons (wOp dIx (wVar 0) (wVar 1)) wNil)) (wCall sp_rule_shape (wCons (wOp dIx (wVar 0) (wVar 2)) wNil)))))))
/-- is_ring(rules, numbers): slots 0 rules, 1 numbers, 2 k, 3 greatest, 4 at, 5 own, 6 steps, 7 shape, 8 step -/
def w_is_ring (sp_is_number : DSp) (sp_rule_shape : DSp) (sp_looked_at : DSp) : WS :=
  (wSeq (wIfS (wOr (wNot (wTruth (wIsi "tuple" (wVar 1)))) (wTest (wOp dEq (wCB dLen (wCons (wVar 1) wNil)) (wC (.int 0)))))
    (wRet (wC (.bl false)))
    wSkip)
  (wSeq (wIfS (wOr (wNot (wTruth (wCB dAll (wCons (wLc (wiAny (wVar 1)) (wgName 2) wYes (wCall sp_is_number (wCons (wVar 0) (wCons (wVar 2) wNil))) [2]) wNil)))) (wTest (wOp dLt (wSetLn (wVar 1)) (wCB dLen (wCons (wVar 1) wNil)))))
    (wRet (wC (.bl false)))
    wSkip)
  (wSeq (wAsg (wC (.int 0)) (wgName 3))
  (wSeq (wFor (wiEnumA (wCons (wVar 1) wNil)) (wgTup 2 (wgCons (wgName 4) (wgCons (wgName 2) wgNil)))
    (wSeq (wAsg (wCall sp_rule_shape (wCons (wOp dIx (wVar 0) (wOp dIx (wVar 1) (wOp dSub (wVar 4) (wC (.int 1))))) wNil)) (wgName 5))
  (wSeq (wAsg (wLc (wiAny (wCall sp_looked_at (wCons (wOp dIx (wVar 0) (wVar 2)) wNil))) (wgTup 2 (wgCons (wgName 7) (wgCons (wgName 8) wgNil))) (wTest (wOp dEq (wVar 7) (wVar 5))) (wVar 8) [7, 8]) (wgName 6))
  (wSeq (wIfS (wTest (wOp dEq (wVar 6) (wLst wNil)))
    (wRet (wC (.bl false)))
    wSkip)
  (wAsg (wCB dMaxL (wCons (wOp dAdd (wLst (wCons (wVar 3) wNil)) (wVar 6)) wNil)) (wgName 3))))))
  (wRet (wOp dGt (wVar 3) (wC (.int 0))))))))
/-- is_bar(rules, thing): slots 0 rules, 1 thing -/
def w_is_bar (sp_is_two : DSp) (sp_is_ring : DSp) : WS :=
  (wSeq (wIfS (wOr (wNot (wTruth (wIsi "tuple" (wVar 1)))) (wTest (wOp dLt (wCB dLen (wCons (wVar 1) wNil)) (wC (.int 2)))))
    (wRet (wC (.bl false)))
    wSkip)
  (wSeq (wIfS (wAnd (wTest (wOp dEq (wOp dIx (wVar 1) (wC (.int 0))) (wC (.str "two")))) (wTest (wOp dEq (wCB dLen (wCons (wVar 1) wNil)) (wC (.int 3)))))
    (wRet (wCall sp_is_two (wCons (wVar 0) (wCons (wOp dIx (wVar 1) (wC (.int 1))) (wCons (wOp dIx (wVar 1) (wC (.int 2))) wNil)))))
    wSkip)
  (wRet (wAndV (wOp dEq (wOp dIx (wVar 1) (wC (.int 0))) (wC (.str "ring"))) (wAndV (wOp dEq (wCB dLen (wCons (wVar 1) wNil)) (wC (.int 2))) (wCall sp_is_ring (wCons (wVar 0) (wCons (wOp dIx (wVar 1) (wC (.int 1))) wNil))))))))
/-- _law_cell_at(script, k): slots 0 script, 1 k -/
def w_law_cell_at : WS :=
  (wSeq (wIfS (wTest (wOp dLt (wVar 1) (wCB dLen (wCons (wVar 0) wNil))))
    (wRet (wOp dIx (wVar 0) (wVar 1)))
    wSkip)
  (wRet (wC (.int 0))))
/-- _law_left(script, k): slots 0 script, 1 k, 2 cell, 3 seed -/
def w_law_left (sp_law_cell_at : DSp) : WS :=
  (wSeq (wAsg (wCall sp_law_cell_at (wCons (wVar 0) (wCons (wVar 1) wNil))) (wgName 2))
  (wSeq (wAsg (wOp dMod (wOp dMul (wOp dAdd (wOp dAdd (wOp dMod (wVar 2) (wC (.int 2147483629))) (wOp dMul (wOp dMul (wC (.int 7919)) (wVar 1)) (wVar 1))) (wC (.int 11))) (wC (.int 48271))) (wC (.int 2147483647))) (wgName 3))
  (wSeq (wIfS (wTest (wOp dEq (wOp dMod (wCall sp_law_cell_at (wCons (wVar 0) (wCons (wC (.int 0)) wNil))) (wC (.int 2))) (wC (.int 0))))
    (wAsg (wC (.int 0)) (wgName 2))
    wSkip)
  (wRet (wLst (wCons (wOp dMod (wVar 2) (wOp dPow (wC (.int 10)) (wC (.int 30)))) (wCons (wVar 3) wNil)))))))
/-- _law_pick(left, many): slots 0 left, 1 many, 2 digit -/
def w_law_pick : WS :=
  (wSeq (wIfS (wTest (wOp dGt (wOp dIx (wVar 0) (wC (.int 0))) (wC (.int 0))))
    (wSeq (wAsg (wOp dMod (wOp dIx (wVar 0) (wC (.int 0))) (wVar 1)) (wgName 2))
  (wSeq (wAsg (wOp dDiv (wOp dIx (wVar 0) (wC (.int 0))) (wVar 1)) (wgSub (wVar 0) (wC (.int 0)) dSet))
  (wRet (wVar 2))))
    wSkip)
  (wSeq (wAsg (wOp dMod (wOp dAdd (wOp dMul (wOp dIx (wVar 0) (wC (.int 1))) (wC (.int 48271))) (wC (.int 12345))) (wC (.int 2147483647))) (wgSub (wVar 0) (wC (.int 1)) dSet))
  (wRet (wOp dMod (wOp dMod (wOp dMul (wOp dIx (wVar 0) (wC (.int 1))) (wOp dIx (wVar 0) (wC (.int 1)))) (wC (.int 1999999973))) (wVar 1)))))
/-- _law_words(left): slots 0 left, 1 letters, 2 first, 3 step, 4 words, 5 k -/
def w_law_words (sp_law_pick : DSp) : WS :=
  (wSeq (wAsg (wC (.str "abcdefghijklmnopqrstuvwxyz")) (wgName 1))
  (wSeq (wAsg (wCall sp_law_pick (wCons (wVar 0) (wCons (wC (.int 26)) wNil))) (wgName 2))
  (wSeq (wAsg (wOp dIx (wLst (wCons (wC (.int 1)) (wCons (wC (.int 3)) (wCons (wC (.int 5)) (wCons (wC (.int 7)) (wCons (wC (.int 9)) (wCons (wC (.int 11)) wNil))))))) (wCall sp_law_pick (wCons (wVar 0) (wCons (wC (.int 6)) wNil)))) (wgName 3))
  (wSeq (wAsg (wLst wNil) (wgName 4))
  (wSeq (wFor (wiRange1 (wCons (wC (.int 6)) wNil)) (wgName 5)
    (wDrop (wMt "list" dAppend (wVar 4) (wCons (wOp dAdd (wOp dIx (wVar 1) (wOp dMod (wOp dAdd (wVar 2) (wOp dMul (wVar 3) (wVar 5))) (wC (.int 26)))) (wOp dIx (wLst (wCons (wC (.str "")) (wCons (wC (.str "1")) (wCons (wC (.str ".x")) (wCons (wC (.str "if")) wNil))))) (wCall sp_law_pick (wCons (wVar 0) (wCons (wC (.int 4)) wNil))))) wNil))))
  (wRet (wVar 4)))))))
/-- _law_constants(left, words): slots 0 left, 1 words, 2 number, 3 far -/
def w_law_constants (sp_law_pick : DSp) : WS :=
  (wSeq (wAsg (wOp dSub (wCall sp_law_pick (wCons (wVar 0) (wCons (wC (.int 5)) wNil))) (wC (.int 2))) (wgName 2))
  (wSeq (wAsg (wOp dIx (wLst (wCons (wC (.int 7)) (wCons (wNeg (wOp dPow (wC (.int 10)) (wC (.int 20)))) (wCons (wOp dAdd (wOp dPow (wC (.int 10)) (wC (.int 39))) (wC (.int 3))) wNil)))) (wCall sp_law_pick (wCons (wVar 0) (wCons (wC (.int 3)) wNil)))) (wgName 3))
  (wRet (wLst (wCons (wVar 2) (wCons (wVar 3) (wCons (wTup (wCons (wOp dIx (wVar 1) (wC (.int 4))) wNil)) (wCons (wTup (wCons (wOp dIx (wVar 1) (wC (.int 5))) (wCons (wVar 2) wNil))) wNil))))))))
/-- _law_fresh(known): slots 0 known -/
def w_law_fresh : WS :=
  (wSeq (wDrop (wMt "list" dAppend (wVar 0) (wCons (wOp dIx (wLst (wCons (wC (.str "Y")) (wCons (wC (.str "Ab")) (wCons (wC (.str "B1")) (wCons (wC (.str "X")) (wCons (wC (.str "Ca")) (wCons (wC (.str "A")) (wCons (wC (.str "Zed")) (wCons (wC (.str "Bb")) (wCons (wC (.str "N")) (wCons (wC (.str "Aa")) wNil))))))))))) (wCB dLen (wCons (wVar 0) wNil))) wNil)))
  (wRet (wOp dIx (wVar 0) (wNeg (wC (.int 1))))))
/-- _law_group(left, known): slots 0 left, 1 known, 2 way -/
def w_law_group (sp_law_pick : DSp) : WS :=
  (wSeq (wAsg (wCall sp_law_pick (wCons (wVar 0) (wCons (wC (.int 4)) wNil))) (wgName 2))
  (wSeq (wIfS (wOr (wTest (wOp dEq (wVar 2) (wC (.int 0)))) (wTest (wOp dEq (wVar 1) (wLst wNil))))
    (wRet (wTup (wCons (wC (.str "count")) wNil)))
    wSkip)
  (wRet (wTup (wCons (wOp dIx (wLst (wCons (wC (.str "")) (wCons (wC (.str "sum")) (wCons (wC (.str "least")) (wCons (wC (.str "most")) wNil))))) (wVar 2)) (wCons (wOp dIx (wVar 1) (wCall sp_law_pick (wCons (wVar 0) (wCons (wCB dLen (wCons (wVar 1) wNil)) wNil)))) wNil))))))
/-- _law_any_pattern(left, known, constants, fresh): slots 0 left, 1 known, 2 constants, 3 fresh, 4 way -/
def w_law_any_pattern (sp_law_pick : DSp) (sp_law_fresh : DSp) : WS :=
  (wSeq (wAsg (wCall sp_law_pick (wCons (wVar 0) (wCons (wC (.int 6)) wNil))) (wgName 4))
  (wSeq (wIfS (wAnd (wTest (wOp dLt (wVar 4) (wC (.int 2)))) (wTest (wOp dNe (wVar 1) (wLst wNil))))
    (wRet (wOp dIx (wVar 1) (wCall sp_law_pick (wCons (wVar 0) (wCons (wCB dLen (wCons (wVar 1) wNil)) wNil)))))
    wSkip)
  (wSeq (wIfS (wAnd (wTest (wOp dLt (wVar 4) (wC (.int 4)))) (wAnd (wTruth (wVar 3)) (wTest (wOp dLt (wCB dLen (wCons (wVar 1) wNil)) (wC (.int 10))))))
    (wRet (wCall sp_law_fresh (wCons (wVar 1) wNil)))
    wSkip)
  (wRet (wOp dIx (wVar 2) (wCall sp_law_pick (wCons (wVar 0) (wCons (wC (.int 4)) wNil))))))))
/-- _law_any_atom(left, shape, known, constants, fresh): slots 0 left, 1 shape, 2 known, 3 constants, 4 fresh, 5 k -/
def w_law_any_atom (sp_law_any_pattern : DSp) : WS :=
  (wRet (wOp dAdd (wTup (wCons (wOp dIx (wVar 1) (wC (.int 0))) wNil)) (wCB dTuple (wCons (wLc (wiRange1 (wCons (wOp dIx (wVar 1) (wC (.int 1))) wNil)) (wgName 5) wYes (wCall sp_law_any_pattern (wCons (wVar 0) (wCons (wVar 2) (wCons (wVar 3) (wCons (wVar 4) wNil))))) [5]) wNil))))
/-- _law_any_part(left, shapes, known, constants): slots 0 left, 1 shapes, 2 known, 3 constants, 4 way, 5 shape, 6 one, 7 other -/
def w_law_any_part (sp_law_pick : DSp) (sp_law_any_atom : DSp) (sp_law_any_pattern : DSp) (sp_law_fresh : DSp) : WS :=
  (wSeq (wAsg (wCall sp_law_pick (wCons (wVar 0) (wCons (wC (.int 8)) wNil))) (wgName 4))
  (wSeq (wAsg (wOp dIx (wVar 1) (wCall sp_law_pick (wCons (wVar 0) (wCons (wCB dLen (wCons (wVar 1) wNil)) wNil)))) (wgName 5))
  (wSeq (wIfS (wTest (wOp dLt (wVar 4) (wC (.int 4))))
    (wRet (wTup (wCons (wC (.str "is")) (wCons (wCall sp_law_any_atom (wCons (wVar 0) (wCons (wVar 5) (wCons (wVar 2) (wCons (wVar 3) (wCons (wC (.bl true)) wNil)))))) wNil))))
    wSkip)
  (wSeq (wIfS (wTest (wOp dLt (wVar 4) (wC (.int 6))))
    (wRet (wTup (wCons (wC (.str "not")) (wCons (wCall sp_law_any_atom (wCons (wVar 0) (wCons (wVar 5) (wCons (wVar 2) (wCons (wVar 3) (wCons (wC (.bl false)) wNil)))))) wNil))))
    wSkip)
  (wSeq (wAsg (wCall sp_law_any_pattern (wCons (wVar 0) (wCons (wVar 2) (wCons (wVar 3) (wCons (wC (.bl false)) wNil))))) (wgName 6))
  (wSeq (wAsg (wCall sp_law_any_pattern (wCons (wVar 0) (wCons (wVar 2) (wCons (wVar 3) (wCons (wC (.bl false)) wNil))))) (wgName 7))
  (wSeq (wIfS (wOr (wTest (wOp dEq (wVar 4) (wC (.int 6)))) (wTest (wOp dGt (wCB dLen (wCons (wVar 2) wNil)) (wC (.int 9)))))
    (wRet (wTup (wCons (wOp dIx (wLst (wCons (wC (.str "same")) (wCons (wC (.str "less")) wNil))) (wCall sp_law_pick (wCons (wVar 0) (wCons (wC (.int 2)) wNil)))) (wCons (wVar 6) (wCons (wVar 7) wNil)))))
    wSkip)
  (wRet (wTup (wCons (wC (.str "let")) (wCons (wCall sp_law_fresh (wCons (wVar 2) wNil)) (wCons (wOp dIx (wLst (wCons (wC (.str "plus")) (wCons (wC (.str "minus")) (wCons (wC (.str "times")) wNil)))) (wCall sp_law_pick (wCons (wVar 0) (wCons (wC (.int 3)) wNil)))) (wCons (wVar 6) (wCons (wVar 7) wNil))))))))))))))
/-- _law_any_rule(left, shapes, constants): slots 0 left, 1 shapes, 2 constants, 3 known, 4 body, 5 k, 6 shape, 7 head -/
def w_law_any_rule (sp_law_pick : DSp) (sp_law_any_part : DSp) (sp_law_any_atom : DSp) (sp_law_group : DSp) : WS :=
  (wSeq (wAsg (wLst wNil) (wgName 3))
  (wSeq (wAsg (wLst wNil) (wgName 4))
  (wSeq (wFor (wiRange1 (wCons (wOp dAdd (wC (.int 1)) (wCall sp_law_pick (wCons (wVar 0) (wCons (wOp dIx (wLst (wCons (wC (.int 2)) (wCons (wC (.int 2)) (wCons (wC (.int 3)) (wCons (wC (.int 6)) wNil))))) (wCall sp_law_pick (wCons (wVar 0) (wCons (wC (.int 4)) wNil)))) wNil)))) wNil)) (wgName 5)
    (wDrop (wMt "list" dAppend (wVar 4) (wCons (wCall sp_law_any_part (wCons (wVar 0) (wCons (wVar 1) (wCons (wVar 3) (wCons (wVar 2) wNil))))) wNil))))
  (wSeq (wAsg (wOp dIx (wVar 1) (wCall sp_law_pick (wCons (wVar 0) (wCons (wCB dLen (wCons (wVar 1) wNil)) wNil)))) (wgName 6))
  (wSeq (wAsg (wCall sp_law_any_atom (wCons (wVar 0) (wCons (wVar 6) (wCons (wVar 3) (wCons (wVar 2) (wCons (wC (.bl false)) wNil)))))) (wgName 7))
  (wSeq (wIfS (wTest (wOp dGt (wCall sp_law_pick (wCons (wVar 0) (wCons (wC (.int 5)) wNil))) (wC (.int 0))))
    (wRet (wTup (wCons (wVar 7) (wCons (wC .non) (wCons (wCB dTuple (wCons (wVar 4) wNil)) wNil)))))
    wSkip)
  (wRet (wTup (wCons (wVar 7) (wCons (wCall sp_law_group (wCons (wVar 0) (wCons (wVar 3) wNil))) (wCons (wCB dTuple (wCons (wVar 4) wNil)) wNil)))))))))))
/-- _law_any_shapes(left, words): slots 0 left, 1 words, 2 many, 3 k -/
def w_law_any_shapes (sp_law_pick : DSp) : WS :=
  (wSeq (wAsg (wOp dIx (wLst (wCons (wC (.int 2)) (wCons (wC (.int 3)) (wCons (wC (.int 4)) (wCons (wC (.int 5)) (wCons (wC (.int 3)) (wCons (wC (.int 4)) (wCons (wC (.int 5)) (wCons (wC (.int 8)) wNil))))))))) (wCall sp_law_pick (wCons (wVar 0) (wCons (wC (.int 8)) wNil)))) (wgName 2))
  (wRet (wLc (wiRange1 (wCons (wVar 2) wNil)) (wgName 3) wYes (wTup (wCons (wOp dIx (wVar 1) (wCall sp_law_pick (wCons (wVar 0) (wCons (wC (.int 4)) wNil)))) (wCons (wOp dIx (wLst (wCons (wC (.int 0)) (wCons (wC (.int 1)) (wCons (wC (.int 2)) (wCons (wC (.int 1)) (wCons (wC (.int 2)) (wCons (wC (.int 3)) wNil))))))) (wCall sp_law_pick (wCons (wVar 0) (wCons (wC (.int 6)) wNil)))) wNil))) [3])))
/-- _law_set(script, k): slots 0 script, 1 k, 2 left, 3 words, 4 shapes, 5 constants, 6 j -/
def w_law_set (sp_law_left : DSp) (sp_law_words : DSp) (sp_law_any_shapes : DSp) (sp_law_constants : DSp) (sp_law_pick : DSp) (sp_law_any_rule : DSp) : WS :=
  (wSeq (wAsg (wCall sp_law_left (wCons (wVar 0) (wCons (wC (.int 1)) wNil))) (wgName 2))
  (wSeq (wAsg (wCall sp_law_words (wCons (wVar 2) wNil)) (wgName 3))
  (wSeq (wAsg (wCall sp_law_any_shapes (wCons (wVar 2) (wCons (wVar 3) wNil))) (wgName 4))
  (wSeq (wAsg (wCall sp_law_constants (wCons (wCall sp_law_left (wCons (wVar 0) (wCons (wC (.int 2)) wNil))) (wCons (wVar 3) wNil))) (wgName 5))
  (wSeq (wAsg (wCall sp_law_left (wCons (wVar 0) (wCons (wVar 1) wNil))) (wgName 2))
  (wRet (wLc (wiRange1 (wCons (wOp dIx (wLst (wCons (wC (.int 2)) (wCons (wC (.int 1)) (wCons (wC (.int 3)) (wCons (wC (.int 0)) (wCons (wC (.int 4)) (wCons (wC (.int 5)) (wCons (wC (.int 3)) (wCons (wC (.int 9)) wNil))))))))) (wCall sp_law_pick (wCons (wVar 2) (wCons (wC (.int 8)) wNil)))) wNil)) (wgName 6) wYes (wCall sp_law_any_rule (wCons (wVar 2) (wCons (wVar 4) (wCons (wVar 5) wNil)))) [6])))))))
/-- _law_looks(rule): slots 0 rule, 1 found, 2 part -/
def w_law_looks : WS :=
  (wSeq (wAsg (wLst wNil) (wgName 1))
  (wSeq (wFor (wiAny (wOp dIx (wVar 0) (wC (.int 2)))) (wgName 2)
    (wIfS (wTest (wOp dIn (wOp dIx (wVar 2) (wC (.int 0))) (wTup (wCons (wC (.str "is")) (wCons (wC (.str "not")) wNil)))))
    (wDrop (wMt "list" dAppend (wVar 1) (wCons (wTup (wCons (wTup (wCons (wOp dIx (wOp dIx (wVar 2) (wC (.int 1))) (wC (.int 0))) (wCons (wOp dSub (wCB dLen (wCons (wOp dIx (wVar 2) (wC (.int 1))) wNil)) (wC (.int 1))) wNil))) (wCons (wCB dInt1 (wCons (wOrV (wOp dEq (wOp dIx (wVar 2) (wC (.int 0))) (wC (.str "not"))) (wOp dIsNotN (wOp dIx (wVar 0) (wC (.int 1))) (wC .non))) wNil)) wNil))) wNil)))
    wSkip))
  (wRet (wVar 1))))
/-- _law_shape_of(rule): slots 0 rule -/
def w_law_shape_of : WS :=
  (wRet (wTup (wCons (wOp dIx (wOp dIx (wVar 0) (wC (.int 0))) (wC (.int 0))) (wCons (wOp dAdd (wOp dSub (wCB dLen (wCons (wOp dIx (wVar 0) (wC (.int 0))) wNil)) (wC (.int 1))) (wCB dInt1 (wCons (wOp dIsNotN (wOp dIx (wVar 0) (wC (.int 1))) (wC .non)) wNil))) wNil))))
/-- _law_is_two(rules, i, j): slots 0 rules, 1 i, 2 j -/
def w_law_is_two (sp_law_shape_of : DSp) : WS :=
  (wRet (wAndV (wOp dEq (wCall sp_law_shape_of (wCons (wOp dIx (wVar 0) (wVar 1)) wNil)) (wCall sp_law_shape_of (wCons (wOp dIx (wVar 0) (wVar 2)) wNil))) (wOrV (wOp dIsNotN (wOp dIx (wOp dIx (wVar 0) (wVar 1)) (wC (.int 1))) (wC .non)) (wOp dIsNotN (wOp dIx (wOp dIx (wVar 0) (wVar 2)) (wC (.int 1))) (wC .non)))))
/-- _law_number(rules, k): slots 0 rules, 1 k -/
def w_law_number : WS :=
  (wRet (wAndV (wIsi "int" (wVar 1)) (wAndV (wNotV (wIsi "bool" (wVar 1))) (wChain dLe dLt (wC (.int 0)) (wVar 1) (wCB dLen (wCons (wVar 0) wNil))))))
/-- _law_is_ring(rules, numbers): slots 0 rules, 1 numbers, 2 k, 3 greatest, 4 last, 5 steps, 6 shape, 7 step -/
def w_law_is_ring (sp_law_number : DSp) (sp_law_looks : DSp) (sp_law_shape_of : DSp) : WS :=
  (wSeq (wIfS (wOr (wNot (wTruth (wIsi "tuple" (wVar 1)))) (wOr (wTest (wOp dEqE (wVar 1) (wTup wNil))) (wNot (wTruth (wCB dAll (wCons (wLc (wiAny (wVar 1)) (wgName 2) wYes (wCall sp_law_number (wCons (wVar 0) (wCons (wVar 2) wNil))) [2]) wNil))))))
    (wRet (wC (.bl false)))
    wSkip)
  (wSeq (wIfS (wTest (wOp dLt (wCB dLen (wCons (wCB dDictP (wCons (wLc (wiAny (wVar 1)) (wgName 2) wYes (wTup (wCons (wVar 2) (wCons (wC (.bl true)) wNil))) [2]) wNil)) wNil)) (wCB dLen (wCons (wVar 1) wNil))))
    (wRet (wC (.bl false)))
    wSkip)
  (wSeq (wAsg (wLst wNil) (wgName 3))
  (wSeq (wFor (wiZip (wCons (wVar 1) (wCons (wOp dAdd (wSl dSl (wVar 1) (wPart (wC (.int 1))) wNoPart) (wSl dSl (wVar 1) wNoPart (wPart (wC (.int 1))))) wNil))) (wgTup 2 (wgCons (wgName 4) (wgCons (wgName 2) wgNil)))
    (wSeq (wAsg (wLc (wiAny (wCall sp_law_looks (wCons (wOp dIx (wVar 0) (wVar 2)) wNil))) (wgTup 2 (wgCons (wgName 6) (wgCons (wgName 7) wgNil))) (wTest (wOp dEq (wVar 6) (wCall sp_law_shape_of (wCons (wOp dIx (wVar 0) (wVar 4)) wNil)))) (wVar 7) [6, 7]) (wgName 5))
  (wSeq (wIfS (wTest (wOp dEq (wVar 5) (wLst wNil)))
    (wRet (wC (.bl false)))
    wSkip)
  (wDrop (wMt "list" dAppend (wVar 3) (wCons (wCB dMaxL (wCons (wVar 5) wNil)) wNil))))))
  (wRet (wOp dEq (wCB dMaxL (wCons (wVar 3) wNil)) (wC (.int 1))))))))
/-- _law_is_bar(rules, thing): slots 0 rules, 1 thing -/
def w_law_is_bar (sp_law_number : DSp) (sp_law_is_two : DSp) (sp_law_is_ring : DSp) : WS :=
  (wSeq (wIfS (wOr (wNot (wTruth (wIsi "tuple" (wVar 1)))) (wOr (wTest (wOp dNotIn (wCB dLen (wCons (wVar 1) wNil)) (wTup (wCons (wC (.int 2)) (wCons (wC (.int 3)) wNil))))) (wNot (wTruth (wIsi "str" (wOp dIx (wVar 1) (wC (.int 0))))))))
    (wRet (wC (.bl false)))
    wSkip)
  (wSeq (wIfS (wAnd (wTest (wOp dEq (wOp dIx (wVar 1) (wC (.int 0))) (wC (.str "two")))) (wAnd (wTest (wOp dEq (wCB dLen (wCons (wVar 1) wNil)) (wC (.int 3)))) (wAnd (wTruth (wCall sp_law_number (wCons (wVar 0) (wCons (wOp dIx (wVar 1) (wC (.int 1))) wNil)))) (wTruth (wCall sp_law_number (wCons (wVar 0) (wCons (wOp dIx (wVar 1) (wC (.int 2))) wNil)))))))
    (wRet (wAndV (wOp dLt (wOp dIx (wVar 1) (wC (.int 1))) (wOp dIx (wVar 1) (wC (.int 2)))) (wCall sp_law_is_two (wCons (wVar 0) (wCons (wOp dIx (wVar 1) (wC (.int 1))) (wCons (wOp dIx (wVar 1) (wC (.int 2))) wNil))))))
    wSkip)
  (wRet (wAndV (wOp dEq (wOp dIx (wVar 1) (wC (.int 0))) (wC (.str "ring"))) (wAndV (wOp dEq (wCB dLen (wCons (wVar 1) wNil)) (wC (.int 2))) (wCall sp_law_is_ring (wCons (wVar 0) (wCons (wOp dIx (wVar 1) (wC (.int 1))) wNil))))))))
/-- _law_rings(numbers, many): slots 0 numbers, 1 many, 2 some, 3 one -/
def w_law_rings : WS :=
  (wSeq (wAsg (wLst (wCons (wTup wNil) (wCons (wSl dSl (wVar 0) (wPart (wC (.int 1))) wNoPart) (wCons (wRevT (wVar 0)) (wCons (wOp dAdd (wVar 0) (wSl dSl (wVar 0) wNoPart (wPart (wC (.int 1))))) (wCons (wOp dAdd (wSl dSl (wVar 0) (wPart (wC (.int 1))) wNoPart) (wSl dSl (wVar 0) wNoPart (wPart (wC (.int 1))))) (wCons (wOp dAdd (wVar 0) (wTup (wCons (wVar 1) wNil))) wNil))))))) (wgName 2))
  (wSeq (wAsg (wOp dAdd (wVar 2) (wLst (wCons (wOp dAdd (wVar 0) (wTup (wCons (wNeg (wC (.int 1))) wNil))) (wCons (wOp dAdd (wVar 0) (wTup (wCons (wOp dPow (wC (.int 10)) (wC (.int 30))) wNil))) (wCons (wCB dListA (wCons (wVar 0) wNil)) (wCons (wTup (wCons (wC (.bl true)) wNil)) (wCons (wTup (wCons (wC (.bl false)) wNil)) (wCons (wTup (wCons (wC .non) wNil)) (wCons (wTup (wCons (wC (.str "0")) wNil)) (wCons (wTup (wCons (wTup (wCons (wC (.int 0)) wNil)) wNil)) wNil)))))))))) (wgName 2))
  (wSeq (wAsg (wOp dAdd (wVar 2) (wLst (wCons (wOp dAdd (wSl dSl (wVar 0) wNoPart (wPart (wNeg (wC (.int 1))))) (wTup (wCons (wCB dStrA (wCons (wOp dIx (wVar 0) (wNeg (wC (.int 1)))) wNil)) wNil))) (wCons (wOp dAdd (wSl dSl (wVar 0) wNoPart (wPart (wNeg (wC (.int 1))))) (wTup (wCons (wLst (wCons (wOp dIx (wVar 0) (wNeg (wC (.int 1)))) wNil)) wNil))) (wCons wDct0 (wCons (wC .non) (wCons (wC (.int 0)) (wCons (wC (.str "01")) (wCons (wNeg (wC (.int 1))) wNil))))))))) (wgName 2))
  (wRet (wOp dAdd (wLc (wiAny (wVar 2)) (wgName 3) wYes (wTup (wCons (wC (.str "ring")) (wCons (wVar 3) wNil))) [3]) (wLst (wCons (wTup (wCons (wC (.str "ring")) (wCons (wVar 0) (wCons (wC (.int 0)) wNil)))) (wCons (wLst (wCons (wC (.str "ring")) (wCons (wVar 0) wNil))) (wCons (wTup (wCons (wC (.str "rings")) (wCons (wVar 0) wNil))) (wCons (wTup (wCons (wC (.str "ring")) wNil)) wNil))))))))))
/-- _law_twos(numbers, many): slots 0 numbers, 1 many, 2 one, 3 other, 4 some -/
def w_law_twos : WS :=
  (wSeq (wAsg (wOp dIx (wVar 0) (wC (.int 0))) (wgName 2))
  (wSeq (wAsg (wOp dIx (wVar 0) (wNeg (wC (.int 1)))) (wgName 3))
  (wSeq (wAsg (wLst (wCons (wTup (wCons (wC (.str "two")) (wCons (wVar 3) (wCons (wVar 2) wNil)))) (wCons (wTup (wCons (wC (.str "two")) (wCons (wVar 2) (wCons (wVar 2) wNil)))) (wCons (wTup (wCons (wC (.str "two")) (wCons (wVar 2) (wCons (wVar 1) wNil)))) (wCons (wTup (wCons (wC (.str "two")) (wCons (wNeg (wC (.int 1))) (wCons (wVar 2) wNil)))) (wCons (wTup (wCons (wC (.str "two")) (wCons (wC (.bl false)) (wCons (wC (.bl true)) wNil)))) wNil)))))) (wgName 4))
  (wSeq (wAsg (wOp dAdd (wVar 4) (wLst (wCons (wTup (wCons (wC (.str "two")) (wCons (wC (.str "0")) (wCons (wC (.str "1")) wNil)))) (wCons (wTup (wCons (wC (.str "two")) (wCons (wC .non) (wCons (wVar 2) wNil)))) (wCons (wTup (wCons (wC (.str "two")) (wCons (wTup (wCons (wVar 2) wNil)) (wCons (wVar 3) wNil)))) (wCons (wTup (wCons (wC (.str "two")) (wCons (wVar 2) (wCons (wVar 3) (wCons (wC (.int 0)) wNil))))) (wCons (wTup (wCons (wC (.str "two")) (wCons (wVar 2) wNil))) wNil))))))) (wgName 4))
  (wSeq (wAsg (wOp dAdd (wVar 4) (wLst (wCons (wLst (wCons (wC (.str "two")) (wCons (wVar 2) (wCons (wVar 3) wNil)))) (wCons (wTup (wCons (wC (.str "Two")) (wCons (wVar 2) (wCons (wVar 3) wNil)))) (wCons (wTup (wCons (wC (.str "two")) (wCons (wVar 0) wNil))) (wCons (wTup (wCons (wC (.str "ring")) (wCons (wVar 2) (wCons (wVar 3) wNil)))) (wCons (wTup (wCons (wC (.int 0)) (wCons (wVar 2) (wCons (wVar 3) wNil)))) wNil))))))) (wgName 4))
  (wRet (wOp dAdd (wVar 4) (wLst (wCons (wC .non) (wCons (wC (.bl true)) (wCons (wC (.int 0)) (wCons (wC (.int 1)) (wCons (wC (.str "two")) (wCons (wC (.str "ring")) (wCons (wC (.str "")) (wCons (wLst wNil) (wCons wDct0 (wCons (wTup wNil) (wCons (wTup (wCons (wC (.str "two")) wNil)) (wCons (wTup (wCons (wTup (wCons (wC (.str "ring")) wNil)) (wCons (wVar 0) wNil))) (wCons (wTup (wCons (wC .non) (wCons (wVar 0) wNil))) wNil)))))))))))))))))))))
/-- _law_long(left, words): slots 0 left, 1 words, 2 many, 3 k, 4 shapes, 5 closed, 6 rules, 7 last, 8 kind, 9 body -/
def w_law_long (sp_law_pick : DSp) : WS :=
  (wSeq (wAsg (wOp dAdd (wC (.int 7)) (wCall sp_law_pick (wCons (wVar 0) (wCons (wC (.int 6)) wNil)))) (wgName 2))
  (wSeq (wAsg (wLc (wiRange1 (wCons (wOp dAdd (wVar 2) (wC (.int 1))) wNil)) (wgName 3) wYes (wTup (wCons (wOp dIx (wVar 1) (wOp dMod (wVar 3) (wC (.int 6)))) (wCons (wOp dDiv (wVar 3) (wC (.int 6))) wNil))) [3]) (wgName 4))
  (wSeq (wAsg (wOp dEq (wCall sp_law_pick (wCons (wVar 0) (wCons (wC (.int 2)) wNil))) (wC (.int 0))) (wgName 5))
  (wSeq (wAsg (wLst wNil) (wgName 6))
  (wSeq (wFor (wiRange1 (wCons (wVar 2) wNil)) (wgName 3)
    (wSeq (wAsg (wIf (wAnd (wTest (wOp dEq (wVar 3) (wC (.int 0)))) (wTruth (wVar 5))) (wOp dIx (wVar 4) (wOp dSub (wVar 2) (wC (.int 1)))) (wOp dIx (wVar 4) (wOp dSub (wVar 3) (wC (.int 1))))) (wgName 7))
  (wSeq (wAsg (wOp dIx (wLst (wCons (wC (.str "is")) (wCons (wC (.str "is")) (wCons (wC (.str "not")) wNil)))) (wCall sp_law_pick (wCons (wVar 0) (wCons (wC (.int 3)) wNil)))) (wgName 8))
  (wSeq (wAsg (wTup (wCons (wTup (wCons (wVar 8) (wCons (wOp dAdd (wTup (wCons (wOp dIx (wVar 7) (wC (.int 0))) wNil)) (wOp dMulA (wTup (wCons (wC (.int 1)) wNil)) (wOp dIx (wVar 7) (wC (.int 1))))) wNil))) wNil)) (wgName 9))
  (wDrop (wMt "list" dInsert (wVar 6) (wCons (wCall sp_law_pick (wCons (wVar 0) (wCons (wOp dAdd (wCB dLen (wCons (wVar 6) wNil)) (wC (.int 1))) wNil))) (wCons (wTup (wCons (wOp dAdd (wTup (wCons (wOp dIx (wOp dIx (wVar 4) (wVar 3)) (wC (.int 0))) wNil)) (wOp dMulA (wTup (wCons (wC (.int 2)) wNil)) (wOp dIx (wOp dIx (wVar 4) (wVar 3)) (wC (.int 1))))) (wCons (wC .non) (wCons (wVar 9) wNil)))) wNil))))))))
  (wRet (wVar 6)))))))
/-- law(script): slots 0 script, 1 some, 2 rules, 3 handed, 4 found, 5 numbers, 6 thing, 7 told, 8 k -/
def w_law (sp_law_set : DSp) (sp_law_long : DSp) (sp_law_left : DSp) (sp_law_words : DSp) (sp_bar : DSp) (sp_law_rings : DSp) (sp_law_twos : DSp) (sp_is_bar : DSp) (sp_law_is_bar : DSp) : WS :=
  (wSeq (wAsg (wLc (wiRange2 (wCons (wC (.int 3)) (wCons (wC (.int 9)) wNil))) (wgName 8) wYes (wCall sp_law_set (wCons (wVar 0) (wCons (wVar 8) wNil))) [8]) (wgName 1))
  (wSeq (wDrop (wMt "list" dAppend (wVar 1) (wCons (wCall sp_law_long (wCons (wCall sp_law_left (wCons (wVar 0) (wCons (wC (.int 9)) wNil))) (wCons (wCall sp_law_words (wCons (wCall sp_law_left (wCons (wVar 0) (wCons (wC (.int 1)) wNil))) wNil)) wNil))) wNil)))
  (wSeq (wFor (wiAny (wVar 1)) (wgName 2)
    (wSeq (wAsg (wCB dListA (wCons (wVar 2) wNil)) (wgName 3))
  (wSeq (wAsg (wCall sp_bar (wCons (wVar 3) wNil)) (wgName 4))
  (wSeq (wAsg (wTup (wCons (wC (.int 0)) wNil)) (wgName 5))
  (wSeq (wIfS (wTest (wOp dIsNotN (wVar 4) (wC .non)))
    (wAsg (wIf (wTest (wOp dEq (wOp dIx (wVar 4) (wC (.int 0))) (wC (.str "ring")))) (wOp dIx (wVar 4) (wC (.int 1))) (wSl dSl (wVar 4) (wPart (wC (.int 1))) wNoPart)) (wgName 5))
    wSkip)
  (wSeq (wFor (wiAny (wOp dAdd (wCall sp_law_rings (wCons (wVar 5) (wCons (wCB dLen (wCons (wVar 2) wNil)) wNil))) (wCall sp_law_twos (wCons (wVar 5) (wCons (wCB dLen (wCons (wVar 2) wNil)) wNil))))) (wgName 6)
    (wSeq (wAsg (wCall sp_is_bar (wCons (wVar 3) (wCons (wVar 6) wNil))) (wgName 7))
  (wIfS (wOr (wNot (wTruth (wIsi "bool" (wVar 7)))) (wTest (wOp dNe (wVar 7) (wCall sp_law_is_bar (wCons (wVar 2) (wCons (wVar 6) wNil))))))
    (wRet (wC (.bl false)))
    wSkip)))
  (wIfS (wTest (wOp dNe (wVar 3) (wVar 2)))
    (wRet (wC (.bl false)))
    wSkip)))))))
  (wRet (wC (.bl true))))))

/-- patterns: whole numbers, names, made ones -/
inductive Th where
  | num (i : Int) | nam (x : Str) | made (w : Str) (ts : List Th)
def Th.d : Th → D
  | .num i => .int i
  | .nam x => .str x
  | .made w ts => .tup (.str w :: ts.map Th.d)
def okT : Nat → Th → Prop
  | _, .num i => i.natAbs < 2 ^ 200
  | _, .nam x => x.length ≤ 60
  | 0, .made w ts => w.length ≤ 60 ∧ ts = []
  | n + 1, .made w ts => w.length ≤ 60 ∧ ts.length ≤ 5 ∧ ∀ t ∈ ts, okT n t
theorem okT_num {n : Nat} {i : Int} (h : i.natAbs < 2 ^ 200) : okT n (.num i) := by cases n <;> exact h
theorem okT_nam {n : Nat} {x : Str} (h : x.length ≤ 60) : okT n (.nam x) := by cases n <;> exact h
theorem okT_nam_of {n : Nat} {x : Str} (h : okT n (.nam x)) : x.length ≤ 60 := by cases n <;> exact h
theorem okT_num_of {n : Nat} {i : Int} (h : okT n (.num i)) : i.natAbs < 2 ^ 200 := by cases n <;> exact h
theorem okT_le : ∀ {n m : Nat} (t : Th), okT n t → n ≤ m → okT m t
  | 0, 0, t, h, _ => h
  | n, m, .num i, h, _ => okT_num (okT_num_of h)
  | n, m, .nam x, h, _ => okT_nam (okT_nam_of h)
  | 0, m + 1, .made w ts, h, _ => by
    obtain ⟨h1, h2⟩ := h
    subst h2
    exact ⟨h1, by simp, by simp⟩
  | n + 1, 0, .made w ts, h, hm => by omega
  | n + 1, m + 1, .made w ts, h, hm => ⟨h.1, h.2.1, fun t ht => okT_le t (h.2.2 t ht) (by omega)⟩
theorem okT_made {n : Nat} {w : Str} {ts : List Th} (h : okT n (.made w ts)) : w.length ≤ 60 ∧ ts.length ≤ 5 ∧ ∀ t ∈ ts, okT (n - 1) t := by
  cases n with
  | zero =>
    obtain ⟨h1, h2⟩ := h
    subst h2
    exact ⟨h1, by simp, by simp⟩
  | succ n => exact h
theorem okT_plain : ∀ (n : Nat) (t : Th), okT n t → plainD (n + 1) t.d = true
  | n, .num i, _ => by simp [Th.d, plainD]
  | n, .nam x, _ => by simp [Th.d, plainD]
  | 0, .made w ts, h => by
    obtain ⟨h1, h2⟩ := h
    subst h2
    simp [Th.d, plainD, plainsD]
  | n + 1, .made w ts, h => by
    obtain ⟨h1, h2, h3⟩ := h
    rw [Th.d]
    refine plainD_tup.mpr ⟨by simp; omega, ?_⟩
    simp only [plainsD, plainD, Bool.true_and]
    refine plains_of fun d hd => ?_
    obtain ⟨t, ht, rfl⟩ := List.mem_map.mp hd
    exact okT_plain n t (h3 t ht)
theorem Th.d_inj : ∀ (a b : Th), a.d = b.d → a = b
  | .num i, .num j, h => by
    simp [Th.d] at h
    rw [h]
  | .nam i, .nam j, h => by
    simp [Th.d] at h
    rw [h]
  | .num i, .nam j, h => by simp [Th.d] at h
  | .nam i, .num j, h => by simp [Th.d] at h
  | .num i, .made w ts, h => by simp [Th.d] at h
  | .made w ts, .num j, h => by simp [Th.d] at h
  | .nam i, .made w ts, h => by simp [Th.d] at h
  | .made w ts, .nam j, h => by simp [Th.d] at h
  | .made w ts, .made w' ts', h => by
    simp [Th.d] at h
    obtain ⟨h1, h2⟩ := h
    rw [h1, go ts ts' h2]
where go : ∀ (as bs : List Th), as.map Th.d = bs.map Th.d → as = bs
  | [], [], _ => rfl
  | [], _ :: _, h => by simp at h
  | _ :: _, [], h => by simp at h
  | a :: as, b :: bs, h => by
    simp at h
    rw [Th.d_inj a b h.1, go as bs h.2]
/-- how many things are in it -/
def Th.size : Th → Nat
  | .num _ => 1
  | .nam _ => 1
  | .made _ ts => 1 + (ts.map Th.size).sum
theorem size_pos (t : Th) : 0 < t.size := by
  cases t with
  | num _ => simp [Th.size]
  | nam _ => simp [Th.size]
  | made _ _ => simp [Th.size]; omega
noncomputable instance : DecidableEq Th := fun a b => Classical.propDecidable _
/-- of signs -/
def CsT : Th → Prop
  | .num i => i.natAbs < 10 ^ 40
  | .nam x => 0 < x.length ∧ Cs x
  | .made w ts => 0 < w.length ∧ Cs w ∧ ∀ t ∈ ts, CsT t

def S_law_cell_at : DSp := fun ds S R => ∃ (ns : List Int) (k : Int), ds = [scriptD ns, .int k] ∧ 0 ≤ k ∧ ∀ i, R (.int i) S
theorem sem_law_cell_at : ∀ ds S R, S_law_cell_at ds S R → ds.length = 2 ∧ w_law_cell_at (endsD R) (startD 2 ds) S := by
  rintro ds S R ⟨ns, k, rfl, hk, h⟩
  refine ⟨rfl, ?_⟩
  simp [w_law_cell_at, startD, scriptD, atI_nn hk]
  by_cases hl : k < ns.length
  · refine .inr ⟨hl, ?_⟩
    have h2 : k.toNat < ns.length := by omega
    exact ⟨_, ⟨_, List.getElem?_eq_getElem h2, rfl⟩, h _⟩
  · exact .inl ⟨by omega, h 0⟩

def S_law_pick : DSp := fun ds S R => ∃ (l : Nat) (m : Int), ds = [.loc l, .int m] ∧ 0 < m ∧ m.natAbs < 2 ^ 200 ∧ LAt l S ∧ ∀ d S', 0 ≤ d → d < m → Gr l S S' → R (.int d) S'
theorem sem_law_pick : ∀ ds S R, S_law_pick ds S R → ds.length = 2 ∧ w_law_pick (endsD R) (startD 3 ds) S := by
  rintro ds S R ⟨l, m, rfl, hm, hmb, ⟨a, b, hl, hab⟩, h⟩
  obtain ⟨h0, h1, h2⟩ := id hab
  refine ⟨rfl, ?_⟩
  have hg : ∀ o, (S.set l o)[l]? = some o := fun o => get_set hl
  have gr : ∀ a' b', Lf a' b' → Gr l S (S.set l (.lst [.int a', .int b'])) := fun a' b' q => ⟨LAt.set ⟨a, b, hl, hab⟩ q, LeX.set⟩
  simp [w_law_pick, startD, dIx_loc hl, dSet_loc hl, dIx_loc (hg _)]
  by_cases ha : 0 < a
  · refine .inr ⟨ha, by omega, cdiv_of 200 hm hmb (by decide) (by decide), ?_⟩
    have q := fmod_bounds a hm
    exact h _ _ q.1 q.2 (gr _ _ ⟨Int.ediv_nonneg h0 (by omega), h1, h2⟩)
  · have q := fmod_bounds (b * 48271 + 12345) (b := 2147483647) (by decide)
    refine .inl ⟨by omega, ?_, ?_, by omega, ?_⟩
    · exact cmul_of 31 31 (by omega) (by decide) (by decide) (by decide) (by decide)
    · exact cmul_of 31 31 (by omega) (by omega) (by decide) (by decide) (by decide)
    · have q2 := fmod_bounds (((b * 48271 + 12345).fmod 2147483647 * (b * 48271 + 12345).fmod 2147483647).fmod 1999999973) hm
      exact h _ _ q2.1 q2.2 (gr _ _ ⟨h0, q.1, q.2⟩)

def S_law_left : DSp := fun ds S R => ∃ (ns : List Int) (k : Int), ds = [scriptD ns, .int k] ∧ 0 ≤ k ∧ k < 1000000 ∧ ∀ a b, Lf a b → R (.loc S.length) (S ++ [.lst [.int a, .int b]])
theorem sem_law_left : ∀ ds S R, S_law_left ds S R → ds.length = 2 ∧ w_law_left S_law_cell_at (endsD R) (startD 4 ds) S := by
  rintro ds S R ⟨ns, k, rfl, hk, hk2, h⟩
  refine ⟨rfl, ?_⟩
  simp [w_law_left, startD]
  refine ⟨ns, k, rfl, hk, fun i => ?_⟩
  have q := fmod_bounds i (b := 2147483629) (by decide)
  have hkk : 0 ≤ 7919 * k * k ∧ 7919 * k * k ≤ 7919000000000000 := by
    have h1 : 7919 * k * k ≤ 7919 * 1000000 * k := Int.mul_le_mul_of_nonneg_right (by omega) hk
    have h2 : 0 ≤ 7919 * k * k := Int.mul_nonneg (by omega) hk
    omega
  simp
  refine ⟨cmul_of 31 31 (by decide) (by omega) (by decide) (by decide) (by decide), cmul_of 64 31 (by omega) (by omega) (by decide) (by decide) (by decide), cmul_of 80 31 (by omega) (by decide) (by decide) (by decide) (by decide), ?_⟩
  have q2 := fmod_bounds ((i.fmod 2147483629 + 7919 * k * k + 11) * 48271) (b := 2147483647) (by decide)
  refine ⟨ns, 0, rfl, by decide, fun j => ?_⟩
  have hs : 2 ≤ sizeLine := by decide
  have hp : CPow 10 30 := by unfold CPow; decide
  have q3 := fmod_bounds i (b := 1000000000000000000000000000000) (by decide)
  simp
  by_cases hj : j.fmod 2 = 0
  · exact .inr ⟨hj, hp, hs, h _ _ ⟨by decide, q2.1, q2.2⟩⟩
  · exact .inl ⟨hj, hp, hs, h _ _ ⟨q3.1, q2.1, q2.2⟩⟩

def Wok (w : Str) : Prop := 0 < w.length ∧ w.length ≤ 60 ∧ Cs w
/-- the names in it -/
def Th.names : Th → List Str
  | .num _ => []
  | .nam x => [x]
  | .made _ ts => ts.flatMap Th.names
/-- the names that are handed out -/
def FR : List Str := ["Y", "Ab", "B1", "X", "Ca", "A", "Zed", "Bb", "N", "Aa"].map Str.ofString
theorem FR_len : FR.length = 10 := rfl
theorem FR_ok : ∀ x ∈ FR, Wok x := by
  intro x hx
  simp only [FR, List.map_cons, List.map_nil, List.mem_cons, List.not_mem_nil, or_false] at hx
  rcases hx with rfl | rfl | rfl | rfl | rfl | rfl | rfl | rfl | rfl | rfl <;> exact ⟨by decide +kernel, by decide +kernel, .lit (by decide +kernel)⟩
theorem FR_nodup : FR.Nodup := by
  have : (["Y", "Ab", "B1", "X", "Ca", "A", "Zed", "Bb", "N", "Aa"].map Str.ofString : List Str) = FR := rfl
  decide +kernel
/-- changed are l and kn alone -/
structure G2 (l kn : Nat) (S S' : Sto) : Prop where
  at_ : LAt l S'
  len : S.length ≤ S'.length
  keep : ∀ j o, j ≠ l → j ≠ kn → S[j]? = some o → S'[j]? = some o
section
variable {l kn : Nat} {S S1 S2 S' : Sto}
theorem G2.refl (h : LAt l S) : G2 l kn S S := ⟨h, Nat.le_refl _, fun _ _ _ _ e => e⟩
theorem G2.of (g : Gr l S S') : G2 l kn S S' := ⟨g.at_, g.x.1, fun j o h _ e => g.x.2 j o h e⟩
theorem G2.trans (a : G2 l kn S S1) (b : G2 l kn S1 S2) : G2 l kn S S2 := ⟨b.at_, Nat.le_trans a.len b.len, fun j o h1 h2 e => b.keep j o h1 h2 (a.keep j o h1 h2 e)⟩
theorem G2.le (a : G2 l kn S S1) (b : Le S1 S2) : G2 l kn S S2 := ⟨a.at_.le b, Nat.le_trans a.len b.len, fun j o h1 h2 e => b _ _ (a.keep j o h1 h2 e)⟩
theorem G2.app (a : G2 l kn S S1) (T : Sto) : G2 l kn S (S1 ++ T) := a.le (Le.app S1 T)
theorem G2.put (a : LAt l S) (h : kn ≠ l) (x : LeX kn S S') : G2 l kn S S' := ⟨by
  obtain ⟨p, q, e, r⟩ := a
  exact ⟨p, q, x.2 l _ (Ne.symm h) e, r⟩, x.1, fun j o _ h2 e => x.2 j o h2 e⟩
end
/-- six words -/
def WsAt (wl : Nat) (S : Sto) : Prop := ∃ ws : List Str, S[wl]? = some (.lst (ws.map D.str)) ∧ ws.length = 6 ∧ ∀ w ∈ ws, Wok w
/-- shapes -/
def shD (p : Str × Nat) : D := .tup [.str p.1, .int p.2]
def ShAt (sh : Nat) (S : Sto) : Prop := ∃ ps : List (Str × Nat), S[sh]? = some (.lst (ps.map shD)) ∧ ps.length ≤ 8 ∧ ∀ p ∈ ps, Wok p.1 ∧ p.2 ≤ 4
/-- constants -/
def CtAt (cs : Nat) (S : Sto) : Prop := ∃ ts : List Th, S[cs]? = some (.lst (ts.map Th.d)) ∧ ts.length = 4 ∧ ∀ t ∈ ts, okT 1 t ∧ CsT t ∧ t.size ≤ 2 ∧ t.names = []
/-- what stands while things are drawn -/
structure Gn (l wl cs kn : Nat) (S : Sto) : Prop where
  at_ : LAt l S
  w : WsAt wl S
  c : CtAt cs S
  lk : l < kn
  wk : wl < kn
  ck : cs < kn
theorem lat_ne {l j : Nat} {S : Sto} {xs : List D} (h : LAt l S) (e : S[j]? = some (.lst xs)) (hx : xs.length ≠ 2 ∨ ∃ d ∈ xs, ∀ i, d ≠ .int i) : j ≠ l := fun q => by
  obtain ⟨a, b, h3, _⟩ := h
  rw [q, h3] at e
  have e' : [D.int a, D.int b] = xs := by simpa using e
  subst e'
  rcases hx with hx | ⟨d, hd, hx⟩
  · simp at hx
  · simp at hd
    rcases hd with rfl | rfl
    · exact hx _ rfl
    · exact hx _ rfl
theorem WsAt.ne {wl l : Nat} {S : Sto} (h : WsAt wl S) (hl : LAt l S) : wl ≠ l := by
  obtain ⟨ws, h1, h2, _⟩ := h
  exact lat_ne hl h1 (.inl (by simp [h2]))
theorem CtAt.ne {wl l : Nat} {S : Sto} (h : CtAt wl S) (hl : LAt l S) : wl ≠ l := by
  obtain ⟨ws, h1, h2, _⟩ := h
  exact lat_ne hl h1 (.inl (by simp [h2]))
theorem ShAt.g2 {sh l kn : Nat} {S S' : Sto} (h : ShAt sh S) (hl : LAt l S) (hk : sh ≠ kn) (g : G2 l kn S S') : ShAt sh S' := by
  obtain ⟨ps, h1, h2⟩ := h
  refine ⟨ps, g.keep _ _ ?_ hk h1, h2⟩
  cases ps with
  | nil => exact lat_ne hl h1 (.inl (by simp))
  | cons p ps => exact lat_ne hl h1 (.inr ⟨shD p, by simp, fun i => by simp [shD]⟩)
theorem Gn.g2 {l wl cs kn : Nat} {S S' : Sto} (G : Gn l wl cs kn S) (g : G2 l kn S S') : Gn l wl cs kn S' where
  at_ := g.at_
  w := let ⟨ws, h1, h2⟩ := id G.w; ⟨ws, g.keep _ _ (G.w.ne G.at_) (Nat.ne_of_lt G.wk) h1, h2⟩
  c := let ⟨ts, h1, h2⟩ := id G.c; ⟨ts, g.keep _ _ (G.c.ne G.at_) (Nat.ne_of_lt G.ck) h1, h2⟩
  lk := G.lk
  wk := G.wk
  ck := G.ck
/-- the known names: the first n -/
def KnAt (kn n : Nat) (S : Sto) : Prop := S[kn]? = some (.lst ((FR.take n).map D.str)) ∧ n ≤ 10
theorem KnAt.gr {l kn n : Nat} {S S' : Sto} (h : KnAt kn n S) (hk : l < kn) (g : Gr l S S') : KnAt kn n S' := ⟨g.get h.1 (by omega), h.2⟩
theorem KnAt.le {kn n : Nat} {S S' : Sto} (h : KnAt kn n S) (g : Le S S') : KnAt kn n S' := ⟨g _ _ h.1, h.2⟩
theorem KnAt.ln {kn n : Nat} {S : Sto} (h : KnAt kn n S) : ((FR.take n).map D.str).length = n := by
  have := h.2
  rw [List.length_map, List.length_take, FR_len]
  omega
theorem take_FR {n m : Nat} {x : Str} (h : x ∈ FR.take n) (e : n ≤ m) : x ∈ FR.take m := by
  have : FR.take n = (FR.take m).take n := by rw [List.take_take, Nat.min_eq_left e]
  rw [this] at h
  exact List.mem_of_mem_take h
/-- what a drawn pattern is, the known names being n ahead, m behind -/
structure PtOk (fresh : Bool) (n m : Nat) (t : Th) : Prop where
  le : n ≤ m
  to : m ≤ max n 6
  fr : fresh = false → m = n
  sub : ∀ x ∈ t.names, x ∈ FR.take m
  new : ∀ x ∈ FR.take m, x ∈ FR.take n ∨ x ∈ t.names
  cs : CsT t

def S_law_fresh : DSp := fun ds S R => ∃ kn n x, ds = [.loc kn] ∧ KnAt kn n S ∧ FR[n]? = some x ∧ ∀ S', KnAt kn (n + 1) S' → LeX kn S S' → R (.str x) S'
theorem sem_law_fresh : ∀ ds S R, S_law_fresh ds S R → ds.length = 1 ∧ w_law_fresh (endsD R) (startD 1 ds) S := by
  rintro ds S R ⟨kn, n, x, rfl, ⟨h1, h2⟩, hx, h⟩
  refine ⟨rfl, ?_⟩
  have hsl : sizeLine = 16777216 := sizeLine_eq
  have hz : 10 ≤ sizeLine := by omega
  have hln := KnAt.ln ⟨h1, h2⟩
  have hn : n < 10 := by have := (List.getElem?_eq_some_iff.mp hx).1; rwa [FR_len] at this
  simp [w_law_fresh, startD, tyD_loc h1, hz]
  have e1 := get_app (T := [O.lst (FR.map D.str)]) h1
  have eF : [D.str (Str.ofString "Y"), D.str (Str.ofString "Ab"), D.str (Str.ofString "B1"), D.str (Str.ofString "X"), D.str (Str.ofString "Ca"), D.str (Str.ofString "A"), D.str (Str.ofString "Zed"), D.str (Str.ofString "Bb"), D.str (Str.ofString "N"), D.str (Str.ofString "Aa")] = FR.map D.str := rfl
  rw [eF]
  rw [dLen_loc e1, hln]
  have e2 : atI (FR.map D.str) (n : Int) = some (D.str x) := by rw [atI_nn (by omega)]; simp [hx]
  rw [dIx_loc get_new, e2]
  refine ⟨_, rfl, ?_⟩
  rw [dAppend_loc e1]
  have e3 : (FR.take n).map D.str ++ [D.str x] = (FR.take (n + 1)).map D.str := by
    rw [List.take_add_one, hx]
    simp
  rw [e3]
  refine ⟨by rw [hln]; omega, ?_⟩
  have e4 : atI ((FR.take (n + 1)).map D.str) (-1) = some (D.str x) := by
    have e5 : ((FR.take n).map D.str ++ [D.str x]).length - 1 = ((FR.take n).map D.str).length := by simp
    rw [← e3, atI_neg1, e5, List.getElem?_append_right (Nat.le_refl _)]
    simp
  rw [dIx_loc (get_set e1), e4]
  refine ⟨_, rfl, h _ ⟨get_set e1, by omega⟩ (((Le.app S _).x kn).trans LeX.set)⟩
/-- a name among the known ones -/
theorem kn_pick {n : Nat} {m : Int} (h0 : 0 ≤ m) (h1 : m < n) (h2 : n ≤ 10) : ∃ x, atI ((FR.take n).map D.str) m = some (D.str x) ∧ x ∈ FR.take n ∧ Wok x := by
  obtain ⟨y, hy, hm⟩ := atI_mem (m := m) (xs := (FR.take n).map D.str) h0 (by
    rw [List.length_map, List.length_take, FR_len]
    omega)
  obtain ⟨x, hx, rfl⟩ := List.mem_map.mp hm
  exact ⟨x, hy, hx, FR_ok x (List.mem_of_mem_take hx)⟩
section
variable {kn n : Nat} {S : Sto}
theorem kn_ne (K : KnAt kn n S) : eqD (S ++ [O.lst []]) (.loc kn) (.loc S.length) = some (decide (n = 0)) := by
  rw [eqD_lsts (get_app K.1) get_new (plains_strs _) (by simp [plainsD])]
  congr 1
  have := K.ln
  by_cases h : n = 0
  · simp [h]
  · have : (FR.take n).map D.str ≠ [] := fun e => h (by rw [e] at this; simpa using this.symm)
    simp only [h, this, decide_false]
end

theorem sh_pick {sh : Nat} {m : Int} {S : Sto} {ps : List (Str × Nat)} (e : S[sh]? = some (.lst (ps.map shD))) (h : ∀ p ∈ ps, Wok p.1 ∧ p.2 ≤ 4) (h0 : 0 ≤ m) (h1 : m < ps.length) : ∃ w k, dIx (.loc sh) (.int m) S = (fun R => R (shD (w, k)) S) ∧ Wok w ∧ k ≤ 4 := by
  obtain ⟨y, hy, hm⟩ := atI_mem (m := m) (xs := ps.map shD) h0 (by simpa using h1)
  obtain ⟨p, hp, rfl⟩ := List.mem_map.mp hm
  refine ⟨p.1, p.2, ?_, h p hp⟩
  funext R
  rw [dIx_loc e, hy]
  simp
section
variable {sh l : Nat} {S : Sto} {ps : List (Str × Nat)}
theorem sh_ne (h : S[sh]? = some (.lst (ps.map shD))) (hl : LAt l S) : sh ≠ l := by
  cases ps with
  | nil => exact lat_ne hl h (.inl (by simp))
  | cons p ps => exact lat_ne hl h (.inr ⟨shD p, by simp, fun i => by simp [shD]⟩)
end
theorem Gn.set {l wl cs kn j : Nat} {S : Sto} {o : O} (G : Gn l wl cs kn S) (h : kn < j) : Gn l wl cs kn (S.set j o) where
  at_ := let ⟨a, b, e, r⟩ := id G.at_; ⟨a, b, by rw [List.getElem?_set_ne (by have := G.lk; omega)]; exact e, r⟩
  w := let ⟨ws, e, r⟩ := id G.w; ⟨ws, by rw [List.getElem?_set_ne (by have := G.wk; omega)]; exact e, r⟩
  c := let ⟨ws, e, r⟩ := id G.c; ⟨ws, by rw [List.getElem?_set_ne (by have := G.ck; omega)]; exact e, r⟩
  lk := G.lk
  wk := G.wk
  ck := G.ck

def S_law_words : DSp := fun ds S R => ∃ l, ds = [.loc l] ∧ LAt l S ∧ ∀ wl S', WsAt wl S' → S.length ≤ wl → Gr l S S' → R (.loc wl) S'
theorem sem_law_words : ∀ ds S R, S_law_words ds S R → ds.length = 1 ∧ w_law_words S_law_pick (endsD R) (startD 6 ds) S := by
  rintro ds S R ⟨l, rfl, hl, h⟩
  refine ⟨rfl, ?_⟩
  have hsl : sizeLine = 16777216 := sizeLine_eq
  have e26 : Str.length "abcdefghijklmnopqrstuvwxyz" = 26 := by decide +kernel
  have hcs : Cs (Str.ofString "abcdefghijklmnopqrstuvwxyz") := .lit (by decide +kernel)
  have hz6 : 6 ≤ sizeLine := by omega
  have hz4 : 4 ≤ sizeLine := by omega
  simp [w_law_words, startD]
  refine ⟨l, 26, rfl, by decide, by decide, hl, fun f S1 a1 b1 g1 => ?_⟩
  simp [hz6]
  refine ⟨l, 6, rfl, by decide, by decide, g1.at_.le (Le.app _ _), fun n2 S2 a2 b2 g2 => ?_⟩
  have hne : S1.length ≠ l := g1.at_.ne (Nat.le_refl _)
  have e2 := g2.get (get_new (S := S1)) hne
  obtain ⟨y, hy, hm⟩ := atI_mem (m := n2) (xs := [D.int 1, D.int 3, D.int 5, D.int 7, D.int 9, D.int 11]) a2 (by simpa using b2)
  obtain ⟨st, rfl, hst⟩ : ∃ st : Nat, y = .int st ∧ st ≤ 11 := by
    simp only [List.mem_cons, List.not_mem_nil, or_false] at hm
    rcases hm with rfl | rfl | rfl | rfl | rfl | rfl
    · exact ⟨1, rfl, by decide⟩
    · exact ⟨3, rfl, by decide⟩
    · exact ⟨5, rfl, by decide⟩
    · exact ⟨7, rfl, by decide⟩
    · exact ⟨9, rfl, by decide⟩
    · exact ⟨11, rfl, by decide⟩
  simp only [dIx_loc e2, hy]
  refine ⟨_, rfl, ?_⟩
  have gA : Gr l S S2 := (g1.app _).trans g2
  have hlS2 : l < S2.length := by obtain ⟨_, _, z, _⟩ := gA.at_; exact lt_of_get z
  refine forGo_run (fun items τ S' => ∃ (i : Nat) (xs : List Str) (v : Option D), items = rangeD i (6 - i) ∧ i ≤ 6 ∧ τ = [some (.loc l), some (.str (Str.ofString "abcdefghijklmnopqrstuvwxyz")), some (.int f), some (.int st), some (.loc S2.length), v] ∧ xs.length = i ∧ (∀ x ∈ xs, Wok x) ∧ S'[S2.length]? = some (.lst (xs.map D.str)) ∧ Gr l S S')
    ⟨0, [], _, rfl, by decide, rfl, rfl, by simp, get_new, gA.app _⟩ ?_ ?_
  · rintro τ S' ⟨i, xs, v, r1, r2, rfl, r3, r4, r5, r6⟩
    refine ⟨trivial, ?_⟩
    have hi : i = 6 := by
      have := congrArg List.length r1
      simp at this
      omega
    simp
    exact h S2.length S' ⟨xs, r5, by omega, r4⟩ gA.x.1 r6
  · rintro it r τ S' N ⟨i, xs, v, r1, r2, rfl, r3, r4, r5, r6⟩ hN
    refine ⟨trivial, ?_⟩
    obtain ⟨rfl, rfl, hpos2⟩ := rangeD_split r1
    simp [tyD_loc r5]
    have hfm := fmod_bounds (f + st * i) (b := 26) (by decide)
    obtain ⟨c, hc, hmc⟩ := sign_at e26 hfm.1 (by omega)
    have hcw : CMulW st i := cmul_of 10 10 (by omega) (by omega) (by decide) (by decide) (by decide)
    refine ⟨hcw, by omega, c, hc, hz4, l, 4, rfl, by decide, by decide, r6.at_.le (Le.app _ _), fun n3 S3 a3 b3 g3 => ?_⟩
    have hne3 : S'.length ≠ l := r6.at_.ne (Nat.le_refl _)
    have e3 := g3.get (get_new (S := S')) hne3
    obtain ⟨y, hy, hm⟩ := atI_mem (m := n3) (xs := [D.str (Str.ofString ""), D.str (Str.ofString "1"), D.str (Str.ofString ".x"), D.str (Str.ofString "if")]) a3 (by simpa using b3)
    obtain ⟨z, rfl, hz1, hz2⟩ : ∃ z : Str, y = .str z ∧ z.length ≤ 2 ∧ Cs z := by
      simp only [List.mem_cons, List.not_mem_nil, or_false] at hm
      rcases hm with rfl | rfl | rfl | rfl <;> exact ⟨_, rfl, by decide +kernel, .lit (by decide +kernel)⟩
    simp only [dIx_loc e3, hy]
    refine ⟨_, rfl, ?_⟩
    have gB := (r6.app [.lst [D.str (Str.ofString ""), D.str (Str.ofString "1"), D.str (Str.ofString ".x"), D.str (Str.ofString "if")]]).trans g3
    have hl1 : Str.length ⟨#[c]⟩ = 1 := rfl
    simp [hl1]
    have hS' := lt_of_get r5
    have r7 : S3[S2.length]? = some (.lst (xs.map D.str)) := g3.get (get_app r5) (by omega)
    rw [dAppend_loc r7]
    have e5 : xs.map D.str ++ [D.str (⟨#[c]⟩ ++ z)] = (xs ++ [⟨#[c]⟩ ++ z]).map D.str := by simp
    rw [e5]
    refine ⟨by omega, by simp; omega, hN _ _ ⟨i + 1, xs ++ [⟨#[c]⟩ ++ z], _, by simp <;> congr 1 <;> omega, by omega, rfl, by simp [r3], fun x hx => ?_, get_set r7, ⟨?_, ?_, fun j o hj e => ?_⟩⟩⟩
    · rcases List.mem_append.mp hx with hx | hx
      · exact r4 x hx
      · rw [List.mem_singleton.mp hx]
        exact ⟨by rw [strLen_app, hl1]; omega, by rw [strLen_app, hl1]; omega, (Cs.one (hcs _ hmc)).app hz2⟩
    · obtain ⟨p, q, e, t⟩ := gB.at_
      exact ⟨p, q, by rw [List.getElem?_set_ne (by omega)]; exact e, t⟩
    · have := gB.x.1
      simpa using this
    · have := lt_of_get e
      have := gA.x.1
      rw [List.getElem?_set_ne (by omega)]
      exact gB.get e hj
theorem atW {ws : List Str} {k : Int} (h : ∀ w ∈ ws, Wok w) (h0 : 0 ≤ k) (h1 : k < ws.length) : ∃ w, atI (ws.map D.str) k = some (.str w) ∧ Wok w := by
  obtain ⟨y, hy, hm⟩ := atI_mem (m := k) (xs := ws.map D.str) h0 (by simpa using h1)
  obtain ⟨w, hw, rfl⟩ := List.mem_map.mp hm
  exact ⟨w, hy, h w hw⟩
def S_law_constants : DSp := fun ds S R => ∃ l wl, ds = [.loc l, .loc wl] ∧ LAt l S ∧ WsAt wl S ∧ ∀ cs S', CtAt cs S' → S.length ≤ cs → Gr l S S' → R (.loc cs) S'
theorem sem_law_constants : ∀ ds S R, S_law_constants ds S R → ds.length = 2 ∧ w_law_constants S_law_pick (endsD R) (startD 4 ds) S := by
  rintro ds S R ⟨l, wl, rfl, hl, ⟨ws, hw1, hw2, hw3⟩, h⟩
  refine ⟨rfl, ?_⟩
  have hsl : sizeLine = 16777216 := sizeLine_eq
  have hz1 : 1 ≤ sizeLine := by omega
  have hz2 : 2 ≤ sizeLine := by omega
  have hz3 : 3 ≤ sizeLine := by omega
  have hz4 : 4 ≤ sizeLine := by omega
  have hp : CPow 10 20 := by unfold CPow; decide
  have hp2 : CPow 10 39 := by unfold CPow; decide
  have hne : wl ≠ l := WsAt.ne ⟨ws, hw1, hw2, hw3⟩ hl
  simp [w_law_constants, startD]
  refine ⟨l, 5, rfl, by decide, by decide, hl, fun n1 S1 a1 b1 g1 => ?_⟩
  simp
  refine ⟨hp, hp2, hz3, l, 3, rfl, by decide, by decide, g1.at_.le (Le.app _ _), fun n2 S2 a2 b2 g2 => ?_⟩
  have hne1 : S1.length ≠ l := g1.at_.ne (Nat.le_refl _)
  have e2 := g2.get (get_new (S := S1)) hne1
  obtain ⟨y, hy, hm⟩ := atI_mem (m := n2) (xs := [D.int 7, D.int (-100000000000000000000), D.int 1000000000000000000000000000000000000003]) a2 (by simpa using b2)
  obtain ⟨far, rfl, hf⟩ : ∃ far : Int, y = .int far ∧ far.natAbs < 10 ^ 40 := by
    simp only [List.mem_cons, List.not_mem_nil, or_false] at hm
    rcases hm with rfl | rfl | rfl
    · exact ⟨7, rfl, by decide⟩
    · exact ⟨_, rfl, by decide⟩
    · exact ⟨_, rfl, by decide⟩
  dsimp only
  rw [dIx_loc e2, hy]
  refine ⟨_, rfl, ?_⟩
  have gB := (g1.app [.lst [D.int 7, D.int (-100000000000000000000), D.int 1000000000000000000000000000000000000003]]).trans g2
  have hw4 := gB.get hw1 hne
  obtain ⟨w, ew, hw⟩ := atW hw3 (k := 4) (by decide) (by omega)
  obtain ⟨v, ev, hv⟩ := atW hw3 (k := 5) (by decide) (by omega)
  rw [dIx_loc hw4, ew]
  refine ⟨_, rfl, hz1, ?_⟩
  rw [dIx_loc hw4, ev]
  refine ⟨_, rfl, hz2, hz4, ?_⟩
  have ht : (10:Nat) ^ 40 = 10000000000000000000000000000000000000000 := by decide
  have hpw : (2:Nat) ^ 200 = 1606938044258990275541962092341162602522202993782792835301376 := by decide
  have hn1 : (n1 - 2).natAbs < 10 ^ 40 := by omega
  refine h S2.length _ ⟨[.num (n1 - 2), .num far, .made w [], .made v [.num (n1 - 2)]], ?_, rfl, fun t ht => ?_⟩ gB.x.1 (gB.app _)
  · rw [get_new]
    simp [Th.d]
  · simp only [List.mem_cons, List.not_mem_nil, or_false] at ht
    rcases ht with rfl | rfl | rfl | rfl
    · exact ⟨okT_num (by omega), by rw [CsT]; exact hn1, by simp [Th.size], by simp [Th.names]⟩
    · exact ⟨okT_num (by omega), by rw [CsT]; exact hf, by simp [Th.size], by simp [Th.names]⟩
    · exact ⟨⟨hw.2.1, by simp, by simp⟩, by rw [CsT]; exact ⟨hw.1, hw.2.2, by simp⟩, by simp [Th.size], by simp [Th.names]⟩
    · refine ⟨⟨hv.2.1, by simp, fun t ht => ?_⟩, ?_, by simp [Th.size], by simp [Th.names]⟩
      · rw [List.mem_singleton.mp ht]
        exact okT_num (by omega)
      · rw [CsT]
        refine ⟨hv.1, hv.2.2, fun t ht => ?_⟩
        rw [List.mem_singleton.mp ht, CsT]
        exact hn1

/-- what is asked behind a pattern drawn of any kind -/
def AnQ (l kn n : Nat) (S : Sto) (R : DQ) : Prop := ∀ (t : Th) m S', okT 1 t → n ≤ m → KnAt kn m S' → G2 l kn S S' → R t.d S'
theorem AnQ.g2 {l kn n : Nat} {S S1 : Sto} {R : DQ} (h : AnQ l kn n S R) (g : G2 l kn S S1) : AnQ l kn n S1 R := fun t m S' a b c d => h t m S' a b c (g.trans d)
def S_law_any_pattern : DSp := fun ds S R => ∃ (l wl cs kn n : Nat) (fresh : Bool), ds = [.loc l, .loc kn, .loc cs, .bl fresh] ∧ Gn l wl cs kn S ∧ KnAt kn n S ∧ AnQ l kn n S R
def w_ac (sp_law_pick : DSp) : WS := (wRet (wOp dIx (wVar 2) (wCall sp_law_pick (wCons (wVar 0) (wCons (wC (.int 4)) wNil)))))
def w_af (sp_law_pick : DSp) (sp_law_fresh : DSp) : WS :=
  (wSeq (wIfS (wAnd (wTest (wOp dLt (wVar 4) (wC (.int 4)))) (wAnd (wTruth (wVar 3)) (wTest (wOp dLt (wCB dLen (wCons (wVar 1) wNil)) (wC (.int 10))))))
    (wRet (wCall sp_law_fresh (wCons (wVar 1) wNil)))
    wSkip) (w_ac sp_law_pick))
theorem w_law_any_pattern_eq {sp_law_pick sp_law_fresh : DSp} : w_law_any_pattern sp_law_pick sp_law_fresh =
  (wSeq (wAsg (wCall sp_law_pick (wCons (wVar 0) (wCons (wC (.int 6)) wNil))) (wgName 4))
  (wSeq (wIfS (wAnd (wTest (wOp dLt (wVar 4) (wC (.int 2)))) (wTest (wOp dNe (wVar 1) (wLst wNil))))
    (wRet (wOp dIx (wVar 1) (wCall sp_law_pick (wCons (wVar 0) (wCons (wCB dLen (wCons (wVar 1) wNil)) wNil)))))
    wSkip) (w_af sp_law_pick sp_law_fresh))) := rfl
section
variable {l wl cs kn n : Nat} {fresh : Bool} {way : Int} {S : Sto} {R : DEnds}
def τa (l cs kn : Nat) (fresh : Bool) (way : Int) : DEnv := [some (.loc l), some (.loc kn), some (.loc cs), some (.bl fresh), some (.int way)]
theorem ac_ok (G : Gn l wl cs kn S) (K : KnAt kn n S) (h : AnQ l kn n S R.rt) : w_ac S_law_pick R (τa l cs kn fresh way) S := by
  simp [w_ac, τa]
  refine ⟨l, 4, rfl, by decide, by decide, G.at_, fun m S2 c2 d2 g2 => ?_⟩
  have G2' := G.g2 (.of g2)
  obtain ⟨ts, e1, e2, e3⟩ := G2'.c
  obtain ⟨y, hy, hm⟩ := atI_mem (m := m) (xs := ts.map Th.d) c2 (by simpa [e2] using d2)
  obtain ⟨t, ht, rfl⟩ := List.mem_map.mp hm
  simp only [dIx_loc e1, hy]
  exact ⟨_, rfl, h t n S2 (e3 t ht).1 (Nat.le_refl _) (K.gr G.lk g2) (.of g2)⟩
theorem af_ok (G : Gn l wl cs kn S) (K : KnAt kn n S) (h : AnQ l kn n S R.rt) : w_af S_law_pick S_law_fresh R (τa l cs kn fresh way) S := by
  have c := fun w : Int => ac_ok (way := w) (fresh := fresh) G K h
  unfold τa at c
  simp [w_af, τa, dLen_loc K.1, K.ln]
  by_cases h7 : way < 4
  · refine .inr ⟨h7, ?_⟩
    cases fresh with
    | false => exact .inl ⟨rfl, c _⟩
    | true =>
      refine .inr ⟨rfl, ?_⟩
      have hmin : min n FR.length = n := by have := K.2; rw [FR_len]; omega
      simp [hmin]
      by_cases hn : n < 10
      · refine .inr ⟨by exact_mod_cast hn, ?_⟩
        obtain ⟨x, hx⟩ : ∃ x, FR[n]? = some x := ⟨_, List.getElem?_eq_getElem (by rw [FR_len]; omega)⟩
        refine ⟨kn, n, x, rfl, K, hx, fun S2 k2 y2 => ?_⟩
        have hk : kn ≠ l := by have := G.lk; omega
        simpa [Th.d] using h (.nam x) (n + 1) S2 (okT_nam (FR_ok x (List.mem_of_getElem? hx)).2.1) (by omega) k2 (.put G.at_ hk y2)
      · exact .inl ⟨by omega, c _⟩
  · exact .inl ⟨by omega, c _⟩
end
theorem sem_law_any_pattern : ∀ ds S R, S_law_any_pattern ds S R → ds.length = 4 ∧ w_law_any_pattern S_law_pick S_law_fresh (endsD R) (startD 5 ds) S := by
  rintro ds S R ⟨l, wl, cs, kn, n, fresh, rfl, G, K, h⟩
  refine ⟨rfl, ?_⟩
  rw [w_law_any_pattern_eq]
  simp [startD]
  refine ⟨l, 6, rfl, by decide, by decide, G.at_, fun way S1 c1 d1 g1 => ?_⟩
  have G1 := G.g2 (.of g1)
  have K1 := K.gr G.lk g1
  have h1 := h.g2 (.of g1)
  simp [kn_ne K1]
  by_cases h3 : way < 2
  · refine .inr ⟨h3, ?_⟩
    have g : G2 l kn S1 (S1 ++ [O.lst []]) := (G2.refl G1.at_).app _
    have G' := G1.g2 g
    have K' := K1.le (Le.app S1 [O.lst []])
    by_cases hn : n = 0
    · exact .inr ⟨hn, af_ok (R := endsD R) G' K' (h1.g2 g)⟩
    · refine .inl ⟨hn, ?_⟩
      rw [dLen_loc K'.1, K'.ln]
      refine ⟨l, n, rfl, by omega, by have := K.2; omega, G'.at_, fun m S3 c3 d3 g3 => ?_⟩
      have K3 := K'.gr G.lk g3
      obtain ⟨x, hx, hm, hok⟩ := kn_pick c3 d3 K.2
      simp only [dIx_loc K3.1, hx]
      refine ⟨_, rfl, ?_⟩
      simpa [Th.d] using h1 (.nam x) n S3 (okT_nam hok.2.1) (Nat.le_refl _) K3 (g.trans (.of g3))
  · exact .inl ⟨by omega, af_ok (R := endsD R) G1 K1 h1⟩
def AaQ (l kn n : Nat) (w : Str) (m : Nat) (S : Sto) (R : DQ) : Prop := ∀ (ts : List Th) k S', ts.length = m → (∀ t ∈ ts, okT 1 t) → n ≤ k → KnAt kn k S' → G2 l kn S S' → R (Th.made w ts).d S'
theorem AaQ.g2 {l kn n m : Nat} {w : Str} {S S1 : Sto} {R : DQ} (h : AaQ l kn n w m S R) (g : G2 l kn S S1) : AaQ l kn n w m S1 R := fun t k S' a b c d e => h t k S' a b c d (g.trans e)
def S_law_any_atom : DSp := fun ds S R => ∃ (l wl cs kn n : Nat) (fresh : Bool) (w : Str) (m : Nat), ds = [.loc l, shD (w, m), .loc kn, .loc cs, .bl fresh] ∧ m ≤ 4 ∧ Gn l wl cs kn S ∧ KnAt kn n S ∧ AaQ l kn n w m S R
theorem sem_law_any_atom : ∀ ds S R, S_law_any_atom ds S R → ds.length = 5 ∧ w_law_any_atom S_law_any_pattern (endsD R) (startD 6 ds) S := by
  rintro ds S R ⟨l, wl, cs, kn, n, fresh, w, m, rfl, hm, G, K, h⟩
  refine ⟨rfl, ?_⟩
  have hsl : sizeLine = 16777216 := sizeLine_eq
  have hz1 : 1 ≤ sizeLine := by omega
  simp [w_law_any_atom, startD, shD]
  refine ⟨hz1, by omega, ?_⟩
  refine lcGo_run (items := rangeD 0 m) (fun items acc S' => ∃ (k : Nat) (ts : List Th), (∀ t ∈ ts, okT 1 t) ∧ acc = ts.map Th.d ∧ n ≤ k ∧ KnAt kn k S' ∧ G2 l kn S S' ∧ ts.length + items.length = m ∧ ∀ it ∈ items, ∃ i : Int, it = D.int i)
    ⟨n, [], by simp, rfl, Nat.le_refl _, K, .refl G.at_, by simp, fun it hi => by obtain ⟨i, e, _⟩ := rangeD_mem hi; exact ⟨i, e⟩⟩ ?_ ?_
  · rintro acc S' ⟨k, ts, q2, rfl, q0, q3, q4, q5, _⟩
    refine ⟨trivial, ?_⟩
    simp at q5
    refine ⟨_, seqD_loc get_new, by simp; omega, ?_⟩
    have := h ts k _ q5 q2 q0 (q3.le (Le.app S' [.lst (ts.map Th.d)])) (q4.app _)
    rw [Th.d] at this
    exact this
  · rintro it r acc S' N ⟨k, ts, q2, rfl, q0, q3, q4, q5, q6⟩ hN
    refine ⟨trivial, ?_⟩
    obtain ⟨i, rfl⟩ := q6 it List.mem_cons_self
    simp only [List.length_cons] at q5
    simp [wipeD]
    refine ⟨l, wl, cs, kn, k, fresh, rfl, G.g2 q4, q3, fun t k2 S2 p2 p0 p5 p6 => ⟨by omega, ?_⟩⟩
    refine hN _ _ ⟨k2, ts ++ [t], fun z hz => ?_, by simp, by omega, p5, q4.trans p6, by simp; omega, fun it hi => q6 it (List.mem_cons_of_mem _ hi)⟩
    rcases List.mem_append.mp hz with hz | hz
    · exact q2 z hz
    · rw [List.mem_singleton.mp hz]; exact p2

/-- a part, as the bars look at it -/
inductive Pa where
  | lk (neg : Bool) (w : Str) (ts : List Th) | ot (kw : Str) (ds : List D)
def Pa.d : Pa → D
  | .lk neg w ts => .tup [.str (if neg then "not" else "is"), (Th.made w ts).d]
  | .ot kw ds => .tup (.str kw :: ds)
def okPa : Pa → Prop
  | .lk _ w ts => Wok w ∧ ts.length ≤ 4 ∧ ∀ t ∈ ts, okT 1 t
  | .ot kw ds => kw ≠ "is" ∧ kw ≠ "not" ∧ 0 < ds.length ∧ ds.length ≤ 4 ∧ plainsD 5 ds = true
theorem okT_at {w : Str} {ts : List Th} (hw : Wok w) (hl : ts.length ≤ 4) (h : ∀ t ∈ ts, okT 1 t) : okT 2 (.made w ts) := ⟨hw.2.1, by omega, h⟩
theorem pl_th {n m : Nat} {t : Th} (h : okT n t) (hm : n + 1 ≤ m) : plainD m t.d = true := plain_mono _ hm (okT_plain n t h)
theorem okPa_plain {p : Pa} (h : okPa p) : plainD 6 p.d = true := by
  cases p with
  | lk neg w ts =>
    rw [Pa.d]
    refine plainD_tup.mpr ⟨by simp, ?_⟩
    have := pl_th (okT_at h.1 h.2.1 h.2.2) (m := 5) (by decide)
    simp [plainsD, plainD, this]
  | ot kw ds =>
    rw [Pa.d]
    refine plainD_tup.mpr ⟨by simp; have := h.2.2.2.1; omega, ?_⟩
    simp [plainsD, plainD, h.2.2.2.2]
def PaQ (l kn n : Nat) (S : Sto) (R : DQ) : Prop := ∀ p m S', okPa p → n ≤ m → KnAt kn m S' → G2 l kn S S' → R p.d S'
def S_law_any_part : DSp := fun ds S R => ∃ (l wl cs kn sh n : Nat) (ps : List (Str × Nat)), ds = [.loc l, .loc sh, .loc kn, .loc cs] ∧ Gn l wl cs kn S ∧ KnAt kn n S ∧ S[sh]? = some (.lst (ps.map shD)) ∧ ps.length ≤ 8 ∧ ps ≠ [] ∧ (∀ p ∈ ps, Wok p.1 ∧ p.2 ≤ 4) ∧ sh < kn ∧ PaQ l kn n S R
theorem sem_law_any_part : ∀ ds S R, S_law_any_part ds S R → ds.length = 4 ∧ w_law_any_part S_law_pick S_law_any_atom S_law_any_pattern S_law_fresh (endsD R) (startD 8 ds) S := by
  rintro ds S R ⟨l, wl, cs, kn, sh, n, ps, rfl, G, K, p1, p2, p0, p3, hsk, h⟩
  refine ⟨rfl, ?_⟩
  have hsl : sizeLine = 16777216 := sizeLine_eq
  have hz2 : 2 ≤ sizeLine := by omega
  have hz3 : 3 ≤ sizeLine := by omega
  have hz5 : 5 ≤ sizeLine := by omega
  have hpos : 0 < ps.length := List.length_pos_iff.mpr p0
  have hkl : kn ≠ l := by have := G.lk; omega
  simp [w_law_any_part, startD]
  refine ⟨l, 8, rfl, by decide, by decide, G.at_, fun way S1 a1 c1 g1 => ?_⟩
  have p1' := g1.get p1 (sh_ne p1 G.at_)
  dsimp only
  rw [dLen_loc p1', List.length_map]
  refine ⟨l, ps.length, rfl, by omega, by omega, g1.at_, fun m2 S2 a2 c2 g2 => ?_⟩
  have p2' := g2.get p1' (sh_ne p1' g1.at_)
  obtain ⟨w, k, ew, hw, hk⟩ := sh_pick p2' p3 a2 c2
  dsimp only
  rw [ew]
  have gA := g1.trans g2
  have G2' := G.g2 (.of gA)
  have K2 := K.gr G.lk gA
  simp
  by_cases h4 : way < 4
  · refine .inr ⟨h4, l, wl, cs, kn, n, true, w, k, rfl, hk, G2', K2, fun ts j S3 q1 q2 q0 q4 q5 => ⟨hz2, ?_⟩⟩
    exact h (.lk false w ts) j S3 ⟨hw, by omega, q2⟩ q0 q4 ((G2.of gA).trans q5)
  · refine .inl ⟨by omega, ?_⟩
    by_cases h6 : way < 6
    · refine .inr ⟨h6, l, wl, cs, kn, n, false, w, k, rfl, hk, G2', K2, fun ts j S3 q1 q2 q0 q4 q5 => ⟨hz2, ?_⟩⟩
      exact h (.lk true w ts) j S3 ⟨hw, by omega, q2⟩ q0 q4 ((G2.of gA).trans q5)
    · refine .inl ⟨by omega, l, wl, cs, kn, n, false, rfl, G2', K2, fun t n3 S3 t1 t2 k3 g3 => ?_⟩
      have g03 := (G2.of gA).trans g3
      refine ⟨l, wl, cs, kn, n3, false, rfl, G.g2 g03, k3, fun u n4 S4 u1 u2 k4 g4 => ?_⟩
      have g04 := g03.trans g4
      have G4 := G.g2 g04
      have pt := pl_th t1 (m := 5) (by decide)
      have pu := pl_th u1 (m := 5) (by decide)
      have two : ∀ S5, G2 l kn S S5 → KnAt kn n4 S5 → 2 ≤ sizeLine ∧ S_law_pick [.loc l, .int 2] (S5 ++ [O.lst [D.str (Str.ofString "same"), D.str (Str.ofString "less")]]) fun d2 S2 => dIx (.loc S5.length) d2 S2 fun d S1 => 3 ≤ sizeLine ∧ R (.tup [d, t.d, u.d]) S1 := by
        intro S5 g5 k5
        refine ⟨hz2, l, 2, rfl, by decide, by decide, g5.at_.le (Le.app _ _), fun n6 S6 a6 c6 g6 => ?_⟩
        have hne : S5.length ≠ l := g5.at_.ne (Nat.le_refl _)
        have e2 := g6.get (get_new (S := S5)) hne
        obtain ⟨y, hy, hm⟩ := atI_mem (m := n6) (xs := [D.str (Str.ofString "same"), D.str (Str.ofString "less")]) a6 (by simpa using c6)
        obtain ⟨kw, rfl, k1, k2⟩ : ∃ kw : Str, y = .str kw ∧ kw ≠ "is" ∧ kw ≠ "not" := by
          simp only [List.mem_cons, List.not_mem_nil, or_false] at hm
          rcases hm with rfl | rfl <;> exact ⟨_, rfl, by decide +kernel, by decide +kernel⟩
        simp only [dIx_loc e2, hy]
        refine ⟨_, rfl, hz3, ?_⟩
        exact h (.ot kw [t.d, u.d]) n4 S6 ⟨k1, k2, by simp, by simp, by simp [plainsD, pt, pu]⟩ (by omega) ((k5.le (Le.app _ _)).gr G.lk g6) ((g5.app _).trans (.of g6))
      by_cases h66 : way = 6
      · refine .inr ⟨h66, two S4 g04 k4⟩
      · refine .inl ⟨h66, ?_⟩
        rw [dLen_loc k4.1, k4.ln]
        simp
        by_cases h9 : 9 < n4
        · exact .inr ⟨by exact_mod_cast h9, two S4 g04 k4⟩
        · refine .inl ⟨by omega, ?_⟩
          obtain ⟨x, hx⟩ : ∃ x, FR[n4]? = some x := ⟨_, List.getElem?_eq_getElem (by rw [FR_len]; omega)⟩
          refine ⟨kn, n4, x, rfl, k4, hx, fun S5 k5 y5 => ⟨hz3, ?_⟩⟩
          have g05 := g04.trans (.put G4.at_ hkl y5)
          refine ⟨l, 3, rfl, by decide, by decide, g05.at_.le (Le.app _ _), fun n6 S6 a6 c6 g6 => ?_⟩
          have hne : S5.length ≠ l := g05.at_.ne (Nat.le_refl _)
          have e2 := g6.get (get_new (S := S5)) hne
          obtain ⟨y, hy, hm⟩ := atI_mem (m := n6) (xs := [D.str (Str.ofString "plus"), D.str (Str.ofString "minus"), D.str (Str.ofString "times")]) a6 (by simpa using c6)
          obtain ⟨dd, rfl⟩ : ∃ dd : Str, y = .str dd := by
            simp only [List.mem_cons, List.not_mem_nil, or_false] at hm
            rcases hm with rfl | rfl | rfl <;> exact ⟨_, rfl⟩
          simp only [dIx_loc e2, hy]
          refine ⟨_, rfl, hz5, ?_⟩
          exact h (.ot "let" [.str x, .str dd, t.d, u.d]) (n4 + 1) S6 ⟨by decide +kernel, by decide +kernel, by simp, by simp, by simp [plainsD, plainD, pt, pu]⟩ (by omega) ((k5.le (Le.app _ _)).gr G.lk g6) ((g05.app _).trans (.of g6))
def grD : Option (List Str) → D
  | none => .non
  | some xs => .tup (xs.map D.str)
def S_law_group : DSp := fun ds S R => ∃ (l kn n : Nat), ds = [.loc l, .loc kn] ∧ LAt l S ∧ l < kn ∧ KnAt kn n S ∧ ∀ (xs : List Str) S', xs.length ≤ 2 → Gr l S S' → R (.tup (xs.map D.str)) S'
theorem sem_law_group : ∀ ds S R, S_law_group ds S R → ds.length = 2 ∧ w_law_group S_law_pick (endsD R) (startD 3 ds) S := by
  rintro ds S R ⟨l, kn, n, rfl, hl, hlk, K, h⟩
  refine ⟨rfl, ?_⟩
  have hsl : sizeLine = 16777216 := sizeLine_eq
  have hz1 : 1 ≤ sizeLine := by omega
  have hz2 : 2 ≤ sizeLine := by omega
  have hz4 : 4 ≤ sizeLine := by omega
  simp [w_law_group, startD]
  refine ⟨l, 4, rfl, by decide, by decide, hl, fun way S1 a1 c1 g1 => ?_⟩
  have K1 := K.gr hlk g1
  simp [kn_ne K1]
  by_cases h0 : way = 0
  · exact .inr ⟨h0, hz1, h [Str.ofString "count"] S1 (by simp) g1⟩
  · refine .inl ⟨h0, ?_⟩
    by_cases hn : n = 0
    · exact .inr ⟨hn, hz1, h [Str.ofString "count"] _ (by simp) (g1.app _)⟩
    · refine .inl ⟨hn, hz4, ?_⟩
      have eL : (S1 ++ [O.lst [], O.lst [D.str (Str.ofString ""), D.str (Str.ofString "sum"), D.str (Str.ofString "least"), D.str (Str.ofString "most")]])[S1.length + 1]? = some (.lst [D.str (Str.ofString ""), D.str (Str.ofString "sum"), D.str (Str.ofString "least"), D.str (Str.ofString "most")]) := by simp
      obtain ⟨y, hy, hm⟩ := atI_mem (m := way) (xs := [D.str (Str.ofString ""), D.str (Str.ofString "sum"), D.str (Str.ofString "least"), D.str (Str.ofString "most")]) a1 (by simpa using c1)
      obtain ⟨kw, rfl⟩ : ∃ kw : Str, y = .str kw := by
        simp only [List.mem_cons, List.not_mem_nil, or_false] at hm
        rcases hm with rfl | rfl | rfl | rfl <;> exact ⟨_, rfl⟩
      rw [dIx_loc eL, hy]
      refine ⟨_, rfl, ?_⟩
      have gA := g1.app [O.lst [], O.lst [D.str (Str.ofString ""), D.str (Str.ofString "sum"), D.str (Str.ofString "least"), D.str (Str.ofString "most")]]
      have KA := K1.le (Le.app S1 [O.lst [], O.lst [D.str (Str.ofString ""), D.str (Str.ofString "sum"), D.str (Str.ofString "least"), D.str (Str.ofString "most")]])
      rw [dLen_loc KA.1, KA.ln]
      refine ⟨l, n, rfl, by omega, by have := K.2; omega, gA.at_, fun m S3 c3 d3 g3 => ?_⟩
      have K3 := KA.gr hlk g3
      obtain ⟨x, hx, hm, hok⟩ := kn_pick c3 d3 K.2
      simp only [dIx_loc K3.1, hx]
      refine ⟨_, rfl, hz2, ?_⟩
      exact h [kw, x] S3 (by simp) (gA.trans g3)
/-- a rule, as the bars look at it -/
structure Ru where
  w : Str
  ts : List Th
  gr : Option (List Str)
  body : List Pa
def Ru.d (r : Ru) : D := .tup [(Th.made r.w r.ts).d, grD r.gr, .tup (r.body.map Pa.d)]
structure okRu (r : Ru) : Prop where
  w : Wok r.w
  ts : r.ts.length ≤ 4
  ok : ∀ t ∈ r.ts, okT 1 t
  gr : ∀ xs, r.gr = some xs → xs.length ≤ 2
  bl : r.body.length ≤ 6
  body : ∀ p ∈ r.body, okPa p
theorem okRu_plain {r : Ru} (h : okRu r) : plainD 8 r.d = true := by
  unfold Ru.d
  refine plainD_tup.mpr ⟨by simp, ?_⟩
  have h1 := pl_th (okT_at h.w h.ts h.ok) (m := 7) (by decide)
  have h2 : plainD 7 (grD r.gr) = true := by
    cases e : r.gr with
    | none => simp [grD, plainD]
    | some xs =>
      rw [grD]
      refine plainD_tup.mpr ⟨by have := h.gr xs e; simp; omega, plains_of fun d hd => ?_⟩
      obtain ⟨x, _, rfl⟩ := List.mem_map.mp hd
      simp [plainD]
  have h3 : plainD 7 (.tup (r.body.map Pa.d)) = true := plainD_tup.mpr ⟨by have := h.bl; simp; omega, plains_of fun d hd => by
    obtain ⟨p, hp, rfl⟩ := List.mem_map.mp hd
    exact okPa_plain (h.body p hp)⟩
  simp [plainsD, h1, h2, h3]
def S_law_any_rule : DSp := fun ds S R => ∃ (l wl cs sh : Nat) (ps : List (Str × Nat)), ds = [.loc l, .loc sh, .loc cs] ∧ LAt l S ∧ WsAt wl S ∧ CtAt cs S ∧ S[sh]? = some (.lst (ps.map shD)) ∧ ps.length ≤ 8 ∧ ps ≠ [] ∧ (∀ p ∈ ps, Wok p.1 ∧ p.2 ≤ 4) ∧ ∀ r S', okRu r → Gr l S S' → R r.d S'
theorem sem_law_any_rule : ∀ ds S R, S_law_any_rule ds S R → ds.length = 3 ∧ w_law_any_rule S_law_pick S_law_any_part S_law_any_atom S_law_group (endsD R) (startD 8 ds) S := by
  rintro ds S R ⟨l, wl, cs, sh, ps, rfl, hl, hw, hc, p1, p2, p0, p3, h⟩
  refine ⟨rfl, ?_⟩
  have hsl : sizeLine = 16777216 := sizeLine_eq
  have hz1 : 1 ≤ sizeLine := by omega
  have hz2 : 2 ≤ sizeLine := by omega
  have hz3 : 3 ≤ sizeLine := by omega
  have hz4 : 4 ≤ sizeLine := by omega
  have hpos : 0 < ps.length := List.length_pos_iff.mpr p0
  have hlS : l < S.length := by obtain ⟨_, _, z, _⟩ := hl; exact lt_of_get z
  have hwS : wl < S.length := by obtain ⟨_, z, _⟩ := hw; exact lt_of_get z
  have hcS : cs < S.length := by obtain ⟨_, z, _⟩ := hc; exact lt_of_get z
  have hpS := lt_of_get p1
  simp [w_law_any_rule, startD, hz4]
  have hnep := sh_ne p1 hl
  have gT : Gr l S (S ++ [O.lst [], O.lst [], O.lst [D.int 2, D.int 2, D.int 3, D.int 6]]) := (Gr.refl hl).app _
  refine ⟨l, 4, rfl, by decide, by decide, gT.at_, fun n1 S1 a1 c1 g1 => ?_⟩
  have e1 : S1[S.length + 1 + 1]? = some (.lst [D.int 2, D.int 2, D.int 3, D.int 6]) := g1.get (by rw [show S.length + 1 + 1 = S.length + 2 from rfl, get_at]; rfl) (by omega)
  have kn1 : S1[S.length]? = some (.lst []) := g1.get (by simp) (by omega)
  have bd1 : S1[S.length + 1]? = some (.lst []) := g1.get (by simp) (by omega)
  obtain ⟨y, hy, hm⟩ := atI_mem (m := n1) (xs := [D.int 2, D.int 2, D.int 3, D.int 6]) a1 (by simpa using c1)
  obtain ⟨c, rfl, hc1, hc6⟩ : ∃ c : Nat, y = .int c ∧ 0 < c ∧ c ≤ 6 := by
    simp only [List.mem_cons, List.not_mem_nil, or_false] at hm
    rcases hm with rfl | rfl | rfl | rfl
    · exact ⟨2, rfl, by decide, by decide⟩
    · exact ⟨2, rfl, by decide, by decide⟩
    · exact ⟨3, rfl, by decide, by decide⟩
    · exact ⟨6, rfl, by decide, by decide⟩
  simp only [dIx_loc e1, hy]
  refine ⟨_, rfl, ?_⟩
  refine ⟨l, c, rfl, by omega, by omega, g1.at_, fun n2 S2 a2 c2 g2 => ?_⟩
  have gA : Gr l S S2 := (gT.trans g1).trans g2
  have kn2 : S2[S.length]? = some (.lst []) := g2.get kn1 (by omega)
  have bd2 : S2[S.length + 1]? = some (.lst []) := g2.get bd1 (by omega)
  have G0 : Gn l wl cs S.length S2 := ⟨gA.at_, let ⟨ws, e, r⟩ := id hw; ⟨ws, gA.get e (hw.ne hl), r⟩, let ⟨ws, e, r⟩ := id hc; ⟨ws, gA.get e (hc.ne hl), r⟩, hlS, hwS, hcS⟩
  have K0 : KnAt S.length 0 S2 := ⟨by simpa using kn2, by decide⟩
  simp
  refine ⟨by omega, by omega, ?_⟩
  have hcn : (1 + n2).toNat ≤ 6 := by omega
  generalize (1 + n2).toNat = cn at hcn ⊢
  have hS2 : S.length + 1 < S2.length := lt_of_get bd2
  refine forGo_run (items := rangeD 0 cn) (fun items τ S' => ∃ (xs : List Pa) (m : Nat) (v : Option D), (∀ it ∈ items, ∃ i : Int, it = D.int i) ∧ τ = [some (.loc l), some (.loc sh), some (.loc cs), some (.loc S.length), some (.loc (S.length + 1)), v, none, none] ∧ (∀ p ∈ xs, okPa p) ∧ xs.length + items.length = cn ∧ S'[S.length + 1]? = some (.lst (xs.map Pa.d)) ∧
      Gn l wl cs S.length S' ∧ KnAt S.length m S' ∧ S'[sh]? = some (.lst (ps.map shD)) ∧ S.length ≤ S'.length ∧ ∀ j o, j ≠ l → S[j]? = some o → S'[j]? = some o)
    ⟨[], 0, _, fun it hi => by obtain ⟨i, e, _⟩ := rangeD_mem hi; exact ⟨i, e⟩, rfl, by simp, by simp, bd2, G0, K0, gA.get p1 hnep, by omega, fun j o hj e => gA.get e hj⟩ ?_ ?_
  · rintro τ S' ⟨xs, m, v, _, rfl, r3, r5, r6, r7, r8, r10, r11, r12⟩
    refine ⟨trivial, ?_⟩
    simp at r5
    simp
    rw [dLen_loc r10, List.length_map]
    refine ⟨l, ps.length, rfl, by omega, by omega, r7.at_, fun n3 S3 a3 c3 g3 => ?_⟩
    have p3' := g3.get r10 (sh_ne r10 r7.at_)
    obtain ⟨w, k, ew, hw', hk⟩ := sh_pick p3' p3 a3 c3
    dsimp only
    rw [ew]
    simp
    refine ⟨l, wl, cs, S.length, m, false, w, k, rfl, hk, r7.g2 (.of g3), r8.gr hlS g3, fun ts j S4 q1 q2 q0 q4 q5 => ?_⟩
    have g04 := (G2.of g3).trans q5
    have G4 := r7.g2 g04
    have b4 := g04.keep _ _ (by omega) (by omega) r6
    have hold : ∀ j o, j ≠ l → S[j]? = some o → S4[j]? = some o := fun j o hj e => g04.keep j o hj (by have := lt_of_get e; omega) (r12 j o hj e)
    have gr4 : Gr l S S4 := ⟨G4.at_, Nat.le_trans r11 g04.len, hold⟩
    refine ⟨l, 5, rfl, by decide, by decide, G4.at_, fun n5 S5 a5 c5 g5 => ?_⟩
    have b5 := g5.get b4 (by omega)
    have gr5 := gr4.trans g5
    simp
    by_cases h5 : 0 < n5
    · refine .inr ⟨h5, _, seqD_loc b5, hz3, ?_⟩
      exact h ⟨w, ts, none, xs⟩ S5 ⟨hw', show ts.length ≤ 4 by omega, q2, (fun _ e => by cases e), show xs.length ≤ 6 by omega, r3⟩ gr5
    · refine .inl ⟨by omega, l, S.length, j, rfl, gr5.at_, hlS, q4.gr hlS g5, fun gs S6 hgs g6 => ?_⟩
      refine ⟨_, seqD_loc (g6.get b5 (by omega)), hz3, ?_⟩
      exact h ⟨w, ts, some gs, xs⟩ S6 ⟨hw', show ts.length ≤ 4 by omega, q2, (fun _ e => by cases e; exact hgs), show xs.length ≤ 6 by omega, r3⟩ (gr5.trans g6)
  · rintro it r τ S' N ⟨xs, m, v, r0, rfl, r3, r5, r6, r7, r8, r10, r11, r12⟩ hN
    refine ⟨trivial, ?_⟩
    obtain ⟨i, rfl⟩ := r0 it List.mem_cons_self
    simp only [List.length_cons] at r5
    simp
    refine ⟨tyD_loc r6, l, wl, cs, S.length, sh, m, ps, rfl, r7, r8, r10, p2, p0, p3, hpS, fun p m2 S4 t1 t0 t2 t3 => ?_⟩
    have r6' := t3.keep _ _ (by omega) (by omega) r6
    dsimp only
    rw [dAppend_loc r6']
    have G4 := r7.g2 t3
    have e5 : xs.map Pa.d ++ [p.d] = (xs ++ [p]).map Pa.d := by simp
    rw [e5]
    refine ⟨by simp; omega, hN _ _ ⟨xs ++ [p], m2, _, fun it hi => r0 it (List.mem_cons_of_mem _ hi), rfl, fun z hz => ?_, by simp; omega, get_set r6', G4.set (Nat.lt_succ_self _), ⟨by rw [List.getElem?_set_ne (by omega)]; exact t2.1, t2.2⟩, ?_, by simp; exact Nat.le_trans r11 t3.len, fun j o hj e => ?_⟩⟩
    · rcases List.mem_append.mp hz with hz | hz
      · exact r3 z hz
      · rw [List.mem_singleton.mp hz]; exact t1
    · rw [List.getElem?_set_ne (by omega)]
      exact t3.keep _ _ hnep (by omega) r10
    · have := lt_of_get e
      rw [List.getElem?_set_ne (by omega)]
      exact t3.keep j o hj (by omega) (r12 j o hj e)

def S_law_any_shapes : DSp := fun ds S R => ∃ l wl, ds = [.loc l, .loc wl] ∧ LAt l S ∧ WsAt wl S ∧ ∀ (sh : Nat) (ps : List (Str × Nat)) S', S'[sh]? = some (.lst (ps.map shD)) → ps ≠ [] → ps.length ≤ 8 → (∀ p ∈ ps, Wok p.1 ∧ p.2 ≤ 4) → Gr l S S' → R (.loc sh) S'
theorem sem_law_any_shapes : ∀ ds S R, S_law_any_shapes ds S R → ds.length = 2 ∧ w_law_any_shapes S_law_pick (endsD R) (startD 4 ds) S := by
  rintro ds S R ⟨l, wl, rfl, hl, ⟨ws, hw1, hw2, hw3⟩, h⟩
  refine ⟨rfl, ?_⟩
  have hsl : sizeLine = 16777216 := sizeLine_eq
  have hz2 : 2 ≤ sizeLine := by omega
  have hz6 : 6 ≤ sizeLine := by omega
  have hz8 : 8 ≤ sizeLine := by omega
  have hne : wl ≠ l := WsAt.ne ⟨ws, hw1, hw2, hw3⟩ hl
  simp [w_law_any_shapes, startD, hz8]
  refine ⟨l, 8, rfl, by decide, by decide, hl.le (Le.app _ _), fun n1 S1 a1 c1 g1 => ?_⟩
  have hneS : S.length ≠ l := hl.ne (Nat.le_refl _)
  have e1 := g1.get (get_new (S := S)) hneS
  obtain ⟨y, hy, hm⟩ := atI_mem (m := n1) (xs := [D.int 2, D.int 3, D.int 4, D.int 5, D.int 3, D.int 4, D.int 5, D.int 8]) a1 (by simpa using c1)
  obtain ⟨many, rfl, hm1, hm8⟩ : ∃ many : Nat, y = .int many ∧ 0 < many ∧ many ≤ 8 := by
    simp only [List.mem_cons, List.not_mem_nil, or_false] at hm
    rcases hm with rfl | rfl | rfl | rfl | rfl | rfl | rfl | rfl
    · exact ⟨2, rfl, by decide, by decide⟩
    · exact ⟨3, rfl, by decide, by decide⟩
    · exact ⟨4, rfl, by decide, by decide⟩
    · exact ⟨5, rfl, by decide, by decide⟩
    · exact ⟨3, rfl, by decide, by decide⟩
    · exact ⟨4, rfl, by decide, by decide⟩
    · exact ⟨5, rfl, by decide, by decide⟩
    · exact ⟨8, rfl, by decide, by decide⟩
  simp only [dIx_loc e1, hy]
  refine ⟨_, rfl, ?_⟩
  have gA := ((Gr.refl hl).app [.lst [D.int 2, D.int 3, D.int 4, D.int 5, D.int 3, D.int 4, D.int 5, D.int 8]]).trans g1
  simp
  refine ⟨by omega, ?_⟩
  refine lc_map (items := rangeD 0 many) (fun _ y => ∃ p : Str × Nat, y = shD p ∧ (Wok p.1 ∧ p.2 ≤ 4)) (fun S' => Gr l S S') gA (fun _ _ => trivial) (by simp; omega) ?_ ?_
  · intro d S' N hd g hN
    obtain ⟨i, rfl, hi0, hi1⟩ := rangeD_mem hd
    simp [wipeD]
    refine ⟨l, 4, rfl, by decide, by decide, g.at_, fun n2 S2 a2 c2 g2 => ?_⟩
    have gB := g.trans g2
    obtain ⟨w, ew, hw⟩ := atW hw3 a2 (k := n2) (by omega)
    simp only [dIx_loc (gB.get hw1 hne), ew]
    refine ⟨_, rfl, hz6, l, 6, rfl, by decide, by decide, gB.at_.le (Le.app _ _), fun n3 S3 a3 c3 g3 => ?_⟩
    have hne2 : S2.length ≠ l := gB.at_.ne (Nat.le_refl _)
    have e3 := g3.get (get_new (S := S2)) hne2
    obtain ⟨y, hy, hm⟩ := atI_mem (m := n3) (xs := [D.int 0, D.int 1, D.int 2, D.int 1, D.int 2, D.int 3]) a3 (by simpa using c3)
    obtain ⟨c, rfl, hc4⟩ : ∃ c : Nat, y = .int c ∧ c ≤ 4 := by
      simp only [List.mem_cons, List.not_mem_nil, or_false] at hm
      rcases hm with rfl | rfl | rfl | rfl | rfl | rfl
      · exact ⟨0, rfl, by decide⟩
      · exact ⟨1, rfl, by decide⟩
      · exact ⟨2, rfl, by decide⟩
      · exact ⟨1, rfl, by decide⟩
      · exact ⟨2, rfl, by decide⟩
      · exact ⟨3, rfl, by decide⟩
    simp only [dIx_loc e3, hy]
    refine ⟨_, rfl, hz2, ?_⟩
    exact hN _ _ ⟨(w, c), rfl, hw, hc4⟩ ((gB.app [.lst [D.int 0, D.int 1, D.int 2, D.int 1, D.int 2, D.int 3]]).trans g3)
  · intro ys S' g hys
    have hlen := hys.length
    simp only [rangeD_len] at hlen
    have go : ∀ {xs ys : List D}, All2 (fun _ y => ∃ p : Str × Nat, y = shD p ∧ (Wok p.1 ∧ p.2 ≤ 4)) xs ys → ∃ ps : List (Str × Nat), ys = ps.map shD ∧ ∀ p ∈ ps, Wok p.1 ∧ p.2 ≤ 4 := by
      intro xs ys hh
      induction hh with
      | nil => exact ⟨[], rfl, by simp⟩
      | cons q _ ih =>
        obtain ⟨p, rfl, q⟩ := q
        obtain ⟨ps, rfl, h4⟩ := ih
        exact ⟨p :: ps, rfl, fun z hz => by
          rcases List.mem_cons.mp hz with e | hz
          · rw [e]; exact q
          · exact h4 z hz⟩
    obtain ⟨ps, rfl, h4⟩ := go hys
    simp only [List.length_map] at hlen
    exact h S'.length ps _ get_new (fun e => by subst e; simp at hlen; omega) (by omega) h4 (g.app _)
def S_law_set : DSp := fun ds S R => ∃ (ns : List Int) (k : Int), ds = [scriptD ns, .int k] ∧ 0 ≤ k ∧ k < 1000000 ∧ ∀ (m : Nat) (rs : List Ru) S', S'[m]? = some (.lst (rs.map Ru.d)) → rs.length ≤ 9 → (∀ r ∈ rs, okRu r) → S.length ≤ m → Le S S' → R (.loc m) S'
theorem sem_law_set : ∀ ds S R, S_law_set ds S R → ds.length = 2 ∧ w_law_set S_law_left S_law_words S_law_any_shapes S_law_constants S_law_pick S_law_any_rule (endsD R) (startD 7 ds) S := by
  rintro ds S R ⟨ns, k, rfl, hk0, hk1, h⟩
  refine ⟨rfl, ?_⟩
  have hsl : sizeLine = 16777216 := sizeLine_eq
  have hz8 : 8 ≤ sizeLine := by omega
  simp [w_law_set, startD]
  refine ⟨ns, 1, rfl, by decide, by decide, fun x1 x2 hx => ?_⟩
  have hl1 : LAt S.length (S ++ [.lst [.int x1, .int x2]]) := ⟨_, _, get_new, hx⟩
  have hold1 : ∀ j o, S[j]? = some o → (S ++ [.lst [.int x1, .int x2]])[j]? = some o := fun j o e => get_app e
  refine ⟨S.length, rfl, hl1, fun wl S1 hw _ g1 => ?_⟩
  refine ⟨S.length, wl, rfl, g1.at_, hw, fun sh ps S2 p1 p0 p8 p3 g2 => ?_⟩
  have hw2 : WsAt wl S2 := let ⟨ws, e, r⟩ := id hw; ⟨ws, g2.get e (hw.ne g1.at_), r⟩
  have k2 : ∀ j o, S[j]? = some o → S2[j]? = some o := fun j o e => by
    have := lt_of_get e
    exact g2.get (g1.get (get_app e) (by omega)) (by omega)
  refine ⟨ns, 2, rfl, by decide, by decide, fun x3 x4 hx3 => ?_⟩
  have hl2 : LAt S2.length (S2 ++ [.lst [.int x3, .int x4]]) := ⟨_, _, get_new, hx3⟩
  refine ⟨S2.length, wl, rfl, hl2, (let ⟨ws, e, r⟩ := hw2; ⟨ws, get_app e, r⟩), fun cs S3 hc _ g3 => ?_⟩
  have hne2 : ∀ {j o}, S2[j]? = some o → S3[j]? = some o := fun {j o} e => by
    have := lt_of_get e
    exact g3.get (get_app e) (by omega)
  have hw3 : WsAt wl S3 := let ⟨ws, e, r⟩ := hw2; ⟨ws, hne2 e, r⟩
  have p3' := hne2 p1
  refine ⟨ns, k, rfl, hk0, hk1, fun x5 x6 hx5 => ?_⟩
  have hl3 : LAt S3.length (S3 ++ [.lst [.int x5, .int x6]]) := ⟨_, _, get_new, hx5⟩
  simp [hz8]
  have gT : Gr S3.length (S3 ++ [.lst [.int x5, .int x6]]) (S3 ++ [.lst [.int x5, .int x6]] ++ [.lst [D.int 2, D.int 1, D.int 3, D.int 0, D.int 4, D.int 5, D.int 3, D.int 9]]) := (Gr.refl hl3).app _
  refine ⟨S3.length, 8, rfl, by decide, by decide, by simpa using gT.at_, fun n1 S4 a1 c1 g4 => ?_⟩
  have g4' : Gr S3.length (S3 ++ [.lst [.int x5, .int x6]] ++ [.lst [D.int 2, D.int 1, D.int 3, D.int 0, D.int 4, D.int 5, D.int 3, D.int 9]]) S4 := by simpa using g4
  have gA := gT.trans g4'
  have e4 : S4[S3.length + 1]? = some (.lst [D.int 2, D.int 1, D.int 3, D.int 0, D.int 4, D.int 5, D.int 3, D.int 9]) := g4.get (by rw [get_at]; rfl) (by omega)
  obtain ⟨y, hy, hm⟩ := atI_mem (m := n1) (xs := [D.int 2, D.int 1, D.int 3, D.int 0, D.int 4, D.int 5, D.int 3, D.int 9]) a1 (by simpa using c1)
  obtain ⟨many, rfl, hm9⟩ : ∃ many : Nat, y = .int many ∧ many ≤ 9 := by
    simp only [List.mem_cons, List.not_mem_nil, or_false] at hm
    rcases hm with rfl | rfl | rfl | rfl | rfl | rfl | rfl | rfl
    · exact ⟨2, rfl, by decide⟩
    · exact ⟨1, rfl, by decide⟩
    · exact ⟨3, rfl, by decide⟩
    · exact ⟨0, rfl, by decide⟩
    · exact ⟨4, rfl, by decide⟩
    · exact ⟨5, rfl, by decide⟩
    · exact ⟨3, rfl, by decide⟩
    · exact ⟨9, rfl, by decide⟩
  simp only [dIx_loc e4, hy]
  refine ⟨_, rfl, many, rfl, by omega, by omega, ?_⟩
  have hold : ∀ {j o}, S3[j]? = some o → S4[j]? = some o := fun {j o} e => by
    have := lt_of_get e
    exact gA.get (get_app e) (by omega)
  have hw4 : WsAt wl S4 := let ⟨ws, e, r⟩ := hw3; ⟨ws, hold e, r⟩
  have hc4 : CtAt cs S4 := let ⟨ws, e, r⟩ := hc; ⟨ws, hold e, r⟩
  have p4 := hold p3'
  refine lc_map (items := rangeD 0 many) (fun _ y => ∃ r : Ru, y = r.d ∧ okRu r) (fun S' => Gr S3.length S4 S') (Gr.refl gA.at_) (fun _ _ => trivial) (by simp; omega) ?_ ?_
  · intro d S' N hd g hN
    simp [wipeD]
    refine ⟨S3.length, wl, cs, sh, ps, rfl, g.at_, let ⟨ws, e, r⟩ := id hw4; ⟨ws, g.get e (hw4.ne gA.at_), r⟩, let ⟨ws, e, r⟩ := id hc4; ⟨ws, g.get e (hc4.ne gA.at_), r⟩, g.get p4 (sh_ne p4 gA.at_), p8, p0, p3, fun r S5 hr g5 => ?_⟩
    exact hN _ _ ⟨r, rfl, hr⟩ (g.trans g5)
  · intro ys S' g hys
    have hlen := hys.length
    simp only [rangeD_len] at hlen
    have go : ∀ {xs ys : List D}, All2 (fun _ y => ∃ r : Ru, y = r.d ∧ okRu r) xs ys → ∃ rs : List Ru, ys = rs.map Ru.d ∧ ∀ r ∈ rs, okRu r := by
      intro xs ys hh
      induction hh with
      | nil => exact ⟨[], rfl, by simp⟩
      | cons q _ ih =>
        obtain ⟨p, rfl, q⟩ := q
        obtain ⟨ps, rfl, h4⟩ := ih
        exact ⟨p :: ps, rfl, fun z hz => by
          rcases List.mem_cons.mp hz with e | hz
          · rw [e]; exact q
          · exact h4 z hz⟩
    obtain ⟨rs, rfl, h4⟩ := go hys
    simp only [List.length_map] at hlen
    have q1 := g1.x.1
    have q2 := g2.x.1
    have q3 := g3.x.1
    have q4 := gA.x.1
    have q5 := g.x.1
    simp at q1 q3 q4
    refine h S'.length rs _ get_new (by omega) h4 (by omega) fun j o e => ?_
    have hj := lt_of_get e
    exact get_app (g.get (hold (hne2 (k2 j o e))) (by omega))

/-- what a rule gives, what it looks at -/
def shpD (w : Str) (n : Nat) : D := .tup [.str w, .int n]
def Ru.shp (r : Ru) : D := shpD r.w (r.ts.length + (if r.gr.isSome then 1 else 0))
def Ru.looks (r : Ru) : List (D × Int) := r.body.filterMap fun p => match p with
  | .lk neg w ts => some (shpD w ts.length, if neg || r.gr.isSome then 1 else 0)
  | .ot _ _ => none
def lkD (p : D × Int) : D := .tup [p.1, .int p.2]
theorem made_len {w : Str} {ts : List Th} : (Th.made w ts).d = .tup (.str w :: ts.map Th.d) := by rw [Th.d]
def S_shape_of : DSp := fun ds S R => ∃ w ts, ds = [(Th.made w ts).d] ∧ Pure (shpD w ts.length) S R
theorem sem_shape_of : ∀ ds S R, S_shape_of ds S R → ds.length = 1 ∧ w_shape_of (endsD R) (startD 1 ds) S := by
  rintro ds S R ⟨w, ts, rfl, h⟩
  refine ⟨rfl, ?_⟩
  have hz2 : 2 ≤ sizeLine := by have := sizeLine_eq; omega
  simp [w_shape_of, startD, made_len, hz2]
  simpa [shpD] using h.here
theorem gr_non (g : Option (List Str)) : isNonD (grD g) = !g.isSome := by cases g <;> rfl
def S_rule_shape : DSp := fun ds S R => ∃ r : Ru, ds = [r.d] ∧ Pure r.shp S R
theorem sem_rule_shape : ∀ ds S R, S_rule_shape ds S R → ds.length = 1 ∧ w_rule_shape S_shape_of (endsD R) (startD 3 ds) S := by
  rintro ds S R ⟨r, rfl, h⟩
  refine ⟨rfl, ?_⟩
  have hz2 : 2 ≤ sizeLine := by have := sizeLine_eq; omega
  simp [w_rule_shape, startD, Ru.d]
  refine ⟨r.w, r.ts, rfl, fun S2 y2 => ?_⟩
  have h2 := h S2 y2
  simp [shpD, gr_non]
  cases hg : r.gr with
  | none => simpa [Ru.shp, shpD, hg, hz2] using h2
  | some xs => simpa [Ru.shp, shpD, hg, hz2] using h2
def S_law_shape_of : DSp := fun ds S R => ∃ r : Ru, ds = [r.d] ∧ Pure r.shp S R
theorem sem_law_shape_of : ∀ ds S R, S_law_shape_of ds S R → ds.length = 1 ∧ w_law_shape_of (endsD R) (startD 1 ds) S := by
  rintro ds S R ⟨r, rfl, h⟩
  refine ⟨rfl, ?_⟩
  have hz2 : 2 ≤ sizeLine := by have := sizeLine_eq; omega
  have h2 := h.here
  simp [w_law_shape_of, startD, Ru.d, made_len, gr_non]
  cases hg : r.gr with
  | none => simpa [Ru.shp, shpD, hg, hz2] using h2
  | some xs => simpa [Ru.shp, shpD, hg, hz2] using h2
def S_looked_at : DSp := fun ds S R => ∃ r : Ru, ds = [r.d] ∧ okRu r ∧ ∀ (m : Nat) S', S'[m]? = some (.lst (r.looks.map lkD)) → Le S S' → R (.loc m) S'
theorem sem_looked_at : ∀ ds S R, S_looked_at ds S R → ds.length = 1 ∧ w_looked_at S_shape_of (endsD R) (startD 3 ds) S := by
  rintro ds S R ⟨r, rfl, ho, h⟩
  refine ⟨rfl, ?_⟩
  have hsl : sizeLine = 16777216 := sizeLine_eq
  have hz2 : 2 ≤ sizeLine := by omega
  have hin : ∀ (w : Str) (S : Sto) (R : DQ), R (.bl (decide (w = Str.ofString "is" ∨ w = Str.ofString "not"))) S → dIn (.str w) (.tup [.str (Str.ofString "is"), .str (Str.ofString "not")]) S R := fun w S R hR => by
    refine dIn_plain (by simp [seqD]; rfl) (by simp [plainD]) (by simp [plainsD, plainD]) ?_
    simpa using hR
  have ne1 : ¬ Str.ofString "is" = Str.ofString "not" := by decide +kernel
  simp [w_looked_at, startD, Ru.d]
  refine forGo_run (fun items τ S' => ∃ (us vs : List Pa) (v : Option D), r.body = us ++ vs ∧ items = vs.map Pa.d ∧ τ = [some (.tup [(Th.made r.w r.ts).d, grD r.gr, .tup (r.body.map Pa.d)]), some (.loc S.length), v] ∧ S'[S.length]? = some (.lst ((Ru.looks ⟨r.w, r.ts, r.gr, us⟩).map lkD)) ∧ Le S S')
    ⟨[], r.body, _, rfl, rfl, rfl, get_new, Le.app _ _⟩ ?_ ?_
  · rintro τ S' ⟨us, vs, v, r0, r1, rfl, r2, r3⟩
    refine ⟨trivial, ?_⟩
    have e : vs = [] := by simpa using r1.symm
    subst e
    rw [List.append_nil] at r0
    simp
    refine h S.length S' ?_ r3
    rw [r2, Ru.looks, Ru.looks, ← r0]
  · rintro it q τ S' N ⟨us, vs, v, r0, r1, rfl, r2, r3⟩ hN
    refine ⟨trivial, ?_⟩
    cases vs with
    | nil => cases r1
    | cons p vs =>
    simp only [List.map_cons, List.cons.injEq] at r1
    obtain ⟨rfl, rfl⟩ := r1
    have hp : p ∈ r.body := by rw [r0]; simp
    have okp := ho.body p hp
    have hbl := ho.bl
    have hul : us.length + 1 ≤ 6 := by rw [r0] at hbl; simp only [List.length_append, List.length_cons] at hbl; omega
    have hlk : (Ru.looks ⟨r.w, r.ts, r.gr, us⟩).length ≤ us.length := by unfold Ru.looks; exact List.length_filterMap_le _ _
    cases p with
    | ot kw ds =>
      simp [Pa.d, hz2]
      refine hin kw _ _ ?_
      have h1 : ¬ kw = Str.ofString "is" := okp.1
      have h2 : ¬ kw = Str.ofString "not" := okp.2.1
      simp [h1, h2]
      refine hN _ _ ⟨us ++ [.ot kw ds], vs, _, by rw [r0]; simp, rfl, (by simp [Pa.d]; rfl), ?_, r3⟩
      rw [r2]
      simp [Ru.looks]
    | lk neg w ts =>
      have fin : ∀ S2, Le S' S2 → N [some (.tup [(Th.made r.w r.ts).d, grD r.gr, .tup (r.body.map Pa.d)]), some (.loc S.length), some (Pa.lk neg w ts).d] (S2.set S.length (.lst ((Ru.looks ⟨r.w, r.ts, r.gr, us⟩).map lkD ++ [.tup [shpD w ts.length, .int (if neg || r.gr.isSome then 1 else 0)]]))) := fun S2 y2 => by
        have r2' := y2 _ _ r2
        refine hN _ _ ⟨us ++ [.lk neg w ts], vs, _, by rw [r0]; simp, rfl, rfl, ?_, fun j o e => ?_⟩
        · rw [get_set r2']
          simp [Ru.looks, lkD]
        · have := lt_of_get e
          rw [List.getElem?_set_ne (by omega)]
          exact y2 _ _ (r3 _ _ e)
      cases neg with
      | true =>
        simp [Pa.d, hz2]
        refine hin _ _ _ ?_
        simp [tyD_loc r2]
        refine ⟨w, ts, rfl, fun S2 y2 => ?_⟩
        dsimp only
        rw [dAppend_loc (y2 _ _ r2)]
        refine ⟨by simp; omega, ?_⟩
        simpa [Pa.d] using fin S2 y2
      | false =>
        simp [Pa.d, hz2]
        refine hin _ _ _ ?_
        simp [tyD_loc r2, ne1, gr_non]
        refine ⟨w, ts, rfl, fun S2 y2 => ?_⟩
        have q := fin S2 y2
        cases hg : r.gr with
        | none =>
          simp [hg]
          rw [dAppend_loc (y2 _ _ r2)]
          refine ⟨by simp; omega, ?_⟩
          simpa [Pa.d, hg] using q
        | some xs =>
          simp [hg]
          rw [dAppend_loc (y2 _ _ r2)]
          refine ⟨by simp; omega, ?_⟩
          simpa [Pa.d, hg] using q

def S_law_looks : DSp := fun ds S R => ∃ r : Ru, ds = [r.d] ∧ okRu r ∧ ∀ (m : Nat) S', S'[m]? = some (.lst (r.looks.map lkD)) → Le S S' → R (.loc m) S'
theorem sem_law_looks : ∀ ds S R, S_law_looks ds S R → ds.length = 1 ∧ w_law_looks (endsD R) (startD 3 ds) S := by
  rintro ds S R ⟨r, rfl, ho, h⟩
  refine ⟨rfl, ?_⟩
  have hsl : sizeLine = 16777216 := sizeLine_eq
  have hz2 : 2 ≤ sizeLine := by omega
  have hin : ∀ (w : Str) (S : Sto) (R : DQ), R (.bl (decide (w = Str.ofString "is" ∨ w = Str.ofString "not"))) S → dIn (.str w) (.tup [.str (Str.ofString "is"), .str (Str.ofString "not")]) S R := fun w S R hR => by
    refine dIn_plain (by simp [seqD]; rfl) (by simp [plainD]) (by simp [plainsD, plainD]) ?_
    simpa using hR
  have ne1 : ¬ Str.ofString "is" = Str.ofString "not" := by decide +kernel
  simp [w_law_looks, startD, Ru.d]
  refine forGo_run (fun items τ S' => ∃ (us vs : List Pa) (v : Option D), r.body = us ++ vs ∧ items = vs.map Pa.d ∧ τ = [some (.tup [(Th.made r.w r.ts).d, grD r.gr, .tup (r.body.map Pa.d)]), some (.loc S.length), v] ∧ S'[S.length]? = some (.lst ((Ru.looks ⟨r.w, r.ts, r.gr, us⟩).map lkD)) ∧ Le S S')
    ⟨[], r.body, _, rfl, rfl, rfl, get_new, Le.app _ _⟩ ?_ ?_
  · rintro τ S' ⟨us, vs, v, r0, r1, rfl, r2, r3⟩
    refine ⟨trivial, ?_⟩
    have e : vs = [] := by simpa using r1.symm
    subst e
    rw [List.append_nil] at r0
    simp
    refine h S.length S' ?_ r3
    rw [r2, Ru.looks, Ru.looks, ← r0]
  · rintro it q τ S' N ⟨us, vs, v, r0, r1, rfl, r2, r3⟩ hN
    refine ⟨trivial, ?_⟩
    cases vs with
    | nil => cases r1
    | cons p vs =>
    simp only [List.map_cons, List.cons.injEq] at r1
    obtain ⟨rfl, rfl⟩ := r1
    have hp : p ∈ r.body := by rw [r0]; simp
    have okp := ho.body p hp
    have hbl := ho.bl
    have hul : us.length + 1 ≤ 6 := by rw [r0] at hbl; simp only [List.length_append, List.length_cons] at hbl; omega
    have hlk : (Ru.looks ⟨r.w, r.ts, r.gr, us⟩).length ≤ us.length := by unfold Ru.looks; exact List.length_filterMap_le _ _
    cases p with
    | ot kw ds =>
      simp [Pa.d, hz2]
      refine hin kw _ _ ?_
      have h1 : ¬ kw = Str.ofString "is" := okp.1
      have h2 : ¬ kw = Str.ofString "not" := okp.2.1
      simp [h1, h2]
      refine hN _ _ ⟨us ++ [.ot kw ds], vs, _, by rw [r0]; simp, rfl, (by simp [Pa.d]; rfl), ?_, r3⟩
      rw [r2]
      simp [Ru.looks]
    | lk neg w ts =>
      have fin : ∀ S2, Le S' S2 → N [some (.tup [(Th.made r.w r.ts).d, grD r.gr, .tup (r.body.map Pa.d)]), some (.loc S.length), some (Pa.lk neg w ts).d] (S2.set S.length (.lst ((Ru.looks ⟨r.w, r.ts, r.gr, us⟩).map lkD ++ [.tup [shpD w ts.length, .int (if neg || r.gr.isSome then 1 else 0)]]))) := fun S2 y2 => by
        have r2' := y2 _ _ r2
        refine hN _ _ ⟨us ++ [.lk neg w ts], vs, _, by rw [r0]; simp, rfl, rfl, ?_, fun j o e => ?_⟩
        · rw [get_set r2']
          simp [Ru.looks, lkD]
        · have := lt_of_get e
          rw [List.getElem?_set_ne (by omega)]
          exact y2 _ _ (r3 _ _ e)
      cases neg with
      | true =>
        simp [Pa.d, hz2]
        refine hin _ _ _ ?_
        simp [tyD_loc r2, made_len, hz2]
        have q := fin S' (Le.refl _)
        rw [dAppend_loc r2]
        refine ⟨by simp; omega, ?_⟩
        simpa [Pa.d, shpD, made_len] using q
      | false =>
        simp [Pa.d, hz2]
        refine hin _ _ _ ?_
        simp [tyD_loc r2, ne1, gr_non, made_len, hz2]
        have q := fin S' (Le.refl _)
        cases hg : r.gr with
        | none =>
          simp [hg]
          rw [dAppend_loc r2]
          refine ⟨by simp; omega, ?_⟩
          simpa [Pa.d, shpD, hg, made_len] using q
        | some xs =>
          simp [hg]
          rw [dAppend_loc r2]
          refine ⟨by simp; omega, ?_⟩
          simpa [Pa.d, shpD, hg, made_len] using q
def numB (n : Nat) (i : Int) : Bool := decide (0 ≤ i) && decide (i < n)

/-- a value whose lists and dicts stand in the store -/
inductive KnD (S : Sto) : D → Prop
  | non : KnD S .non
  | bl {b : Bool} : KnD S (.bl b)
  | int {i : Int} : KnD S (.int i)
  | str {x : Str} : x.length ≤ 100000 → KnD S (.str x)
  | lst {l : Nat} {xs : List D} : S[l]? = some (.lst xs) → KnD S (.loc l)
  | dct {l ep : Nat} {kvs : List (D × D)} : S[l]? = some (.dct ep kvs) → KnD S (.loc l)
  | tup {ds : List D} : ds.length ≤ 1000 → (∀ d ∈ ds, KnD S d) → KnD S (.tup ds)
theorem KnD.le {S S' : Sto} (x : Le S S') : ∀ {d : D}, KnD S d → KnD S' d
  | _, .non => .non
  | _, .bl => .bl
  | _, .int => .int
  | _, .str h => .str h
  | _, .lst h => .lst (x _ _ h)
  | _, .dct h => .dct (x _ _ h)
  | _, .tup hl h => .tup hl fun d hd => (h d hd).le x
theorem KnD.tupI {S : Sto} {ds : List D} (h : KnD S (.tup ds)) : ds.length ≤ 1000 ∧ ∀ d ∈ ds, KnD S d := by
  cases h with
  | tup hl h => exact ⟨hl, h⟩
def numA (n : Nat) : D → Bool
  | .int i => numB n i
  | _ => false
def S_is_number : DSp := fun ds S R => ∃ (rl : Nat) (xs : List D) (d : D), ds = [.loc rl, d] ∧ S[rl]? = some (.lst xs) ∧ KnD S d ∧ R (.bl (numA xs.length d)) S
theorem sem_is_number : ∀ ds S R, S_is_number ds S R → ds.length = 2 ∧ w_is_number (endsD R) (startD 2 ds) S := by
  rintro ds S R ⟨rl, xs, d, rfl, hr, hd, h⟩
  refine ⟨rfl, ?_⟩
  cases hd with
  | int =>
    rename_i i
    simp [w_is_number, startD]
    unfold numA numB at h
    by_cases h0 : 0 ≤ i
    · refine .inr ?_
      simpa [h0, dLen_loc hr] using h
    · refine .inl ⟨by omega, ?_⟩
      simpa [h0] using h
  | non => simpa [w_is_number, startD, numA] using h
  | bl => simpa [w_is_number, startD, numA] using h
  | str _ => simpa [w_is_number, startD, numA] using h
  | tup _ _ => simpa [w_is_number, startD, numA] using h
  | lst e => simpa [w_is_number, startD, numA, typD_lst e] using h
  | dct e => simpa [w_is_number, startD, numA, typD_dct e] using h
def S_law_number : DSp := fun ds S R => ∃ (rl : Nat) (xs : List D) (d : D), ds = [.loc rl, d] ∧ S[rl]? = some (.lst xs) ∧ KnD S d ∧ R (.bl (numA xs.length d)) S
theorem sem_law_number : ∀ ds S R, S_law_number ds S R → ds.length = 2 ∧ w_law_number (endsD R) (startD 2 ds) S := by
  rintro ds S R ⟨rl, xs, d, rfl, hr, hd, h⟩
  refine ⟨rfl, ?_⟩
  cases hd with
  | int =>
    rename_i i
    simp [w_law_number, startD]
    unfold numA numB at h
    by_cases h0 : 0 ≤ i
    · refine .inr ?_
      simpa [h0, dLen_loc hr] using h
    · refine .inl ⟨by omega, ?_⟩
      simpa [h0] using h
  | non => simpa [w_law_number, startD, numA] using h
  | bl => simpa [w_law_number, startD, numA] using h
  | str _ => simpa [w_law_number, startD, numA] using h
  | tup _ _ => simpa [w_law_number, startD, numA] using h
  | lst e => simpa [w_law_number, startD, numA, typD_lst e] using h
  | dct e => simpa [w_law_number, startD, numA, typD_dct e] using h

noncomputable def two2 (a b : Ru) : Bool := (a.gr.isSome || b.gr.isSome) && decide (a.shp = b.shp)
noncomputable def twoB (rs : List Ru) (i j : Int) : Bool := numB rs.length i && numB rs.length j && decide (i < j) && (match rs[i.toNat]?, rs[j.toNat]? with
  | some a, some b => two2 a b
  | _, _ => false)
theorem shp_plain (r : Ru) : plainD 100 r.shp = true := by simp [Ru.shp, shpD, plainD, plainsD]
theorem shp_eq {S : Sto} (a b : Ru) : eqD S a.shp b.shp = some (decide (a.shp = b.shp)) := eqD_plain (shp_plain a) (shp_plain b)
theorem numB_at {rs : List Ru} {i : Int} (h : numB rs.length i = true) : ∃ r, rs[i.toNat]? = some r ∧ atI (rs.map Ru.d) i = some r.d ∧ r ∈ rs := by
  simp only [numB, Bool.and_eq_true, decide_eq_true_eq] at h
  have hl : i.toNat < rs.length := by omega
  refine ⟨rs[i.toNat], List.getElem?_eq_getElem hl, ?_, List.getElem_mem hl⟩
  rw [atI_nn h.1]
  simp [hl]
theorem map_len {rs : List Ru} : (rs.map Ru.d).length = rs.length := List.length_map _
theorem bl_or {b : Bool} {S : Sto} {R : DQ} (h : R (.bl b) S) : (some b = some false ∧ R (.bl false) S) ∨ (some b = some true ∧ R (.bl true) S) := by
  cases b
  · exact .inl ⟨rfl, h⟩
  · exact .inr ⟨rfl, h⟩
theorem ru_gr (r : Ru) {S : Sto} {R : DQ} : dIx r.d (.int 1) S R = R (grD r.gr) S := by simp [Ru.d]
noncomputable def twoA (rs : List Ru) : D → D → Bool
  | .int i, .int j => twoB rs i j
  | _, _ => false
theorem two_forms (rs : List Ru) (n : Nat) (d e : D) : (∃ i j, d = .int i ∧ e = .int j) ∨ ((numA n d = false ∨ numA n e = false) ∧ twoA rs d e = false) := by
  cases d with
  | int i => cases e with
    | int j => exact .inl ⟨i, j, rfl, rfl⟩
    | _ => exact .inr ⟨.inr rfl, rfl⟩
  | _ => exact .inr ⟨.inl rfl, rfl⟩
def S_is_two : DSp := fun ds S R => ∃ (rl : Nat) (rs : List Ru) (d e : D), ds = [.loc rl, d, e] ∧ S[rl]? = some (.lst (rs.map Ru.d)) ∧ KnD S d ∧ KnD S e ∧ Pure (.bl (twoA rs d e)) S R
theorem sem_is_two : ∀ ds S R, S_is_two ds S R → ds.length = 3 ∧ w_is_two S_is_number S_rule_shape (endsD R) (startD 4 ds) S := by
  rintro ds S R ⟨rl, rs, d, e, rfl, hr, hd, he, h⟩
  refine ⟨rfl, ?_⟩
  rcases two_forms rs rs.length d e with ⟨i, j, rfl, rfl⟩ | ⟨hn, ht⟩
  rotate_left
  · rw [ht] at h
    simp [w_is_two, startD]
    refine ⟨rl, _, d, rfl, hr, hd, ?_⟩
    rw [map_len]
    cases h1 : numA rs.length d with
    | false => simpa using h.here
    | true =>
      simp
      refine ⟨rl, _, e, rfl, hr, he, ?_⟩
      rw [map_len]
      cases h2 : numA rs.length e with
      | false => simpa using h.here
      | true => rcases hn with q | q
                · rw [h1] at q; cases q
                · rw [h2] at q; cases q
  replace h : Pure (.bl (twoB rs i j)) S R := h
  simp [w_is_two, startD]
  refine ⟨rl, _, .int i, rfl, hr, .int, ?_⟩
  rw [map_len]
  have h0 := h.here
  unfold twoB at h0
  simp only [numA]
  cases hi : numB rs.length i with
  | false => simpa [hi] using h0
  | true =>
    simp
    refine ⟨rl, _, .int j, rfl, hr, .int, ?_⟩
    rw [map_len]
    simp only [numA]
    cases hj : numB rs.length j with
    | false => simpa [hi, hj] using h0
    | true =>
      simp
      by_cases hij : i < j
      · refine .inl ⟨hij, ?_⟩
        obtain ⟨a, a1, a2, _⟩ := numB_at hi
        obtain ⟨b, b1, b2, _⟩ := numB_at hj
        have e0 : twoB rs i j = two2 a b := by simp [twoB, hi, hj, hij, a1, b1]
        have tail : (a.gr.isSome || b.gr.isSome) = true → dIx (.loc rl) (.int i) S fun d S1 => S_rule_shape [d] S1 fun d1 S1 => dIx (.loc rl) (.int j) S1 fun d S1 => S_rule_shape [d] S1 fun d2 S2 => eqD S2 d1 d2 = some false ∧ R (D.bl false) S2 ∨ eqD S2 d1 d2 = some true ∧ R (D.bl true) S2 := fun hg => by
          rw [dIx_loc hr, a2]
          refine ⟨_, rfl, a, rfl, fun S2 y2 => ?_⟩
          dsimp only
          rw [dIx_loc (y2 _ _ hr), b2]
          refine ⟨_, rfl, b, rfl, fun S3 y3 => ?_⟩
          dsimp only
          rw [shp_eq]
          refine bl_or ?_
          have := h S3 (y2.trans y3)
          rw [e0, two2, hg, Bool.true_and] at this
          exact this
        have none : (a.gr.isSome || b.gr.isSome) = false → R (.bl false) S := fun hg => by
          have := h S (Le.refl S)
          rw [e0, two2, hg, Bool.false_and] at this
          exact this
        rw [dIx_loc hr, a2]
        refine ⟨_, rfl, ?_⟩
        rw [ru_gr]
        simp only [gr_non]
        cases ha : a.gr.isSome with
        | true => exact .inr ⟨rfl, .inr ⟨rfl, tail (by simp [ha])⟩⟩
        | false =>
          refine .inl ⟨rfl, ?_⟩
          rw [dIx_loc hr, b2]
          refine ⟨_, rfl, ?_⟩
          rw [ru_gr]
          simp only [gr_non]
          cases hb : b.gr.isSome with
          | true => exact .inr ⟨rfl, tail (by simp [hb])⟩
          | false => exact .inl ⟨rfl, none (by simp [ha, hb])⟩
      · refine .inr ⟨by omega, ?_⟩
        simpa [hi, hj, hij] using h0
def S_law_is_two : DSp := fun ds S R => ∃ (rl : Nat) (rs : List Ru) (i j : Int) (a b : Ru), ds = [.loc rl, .int i, .int j] ∧ S[rl]? = some (.lst (rs.map Ru.d)) ∧ atI (rs.map Ru.d) i = some a.d ∧ atI (rs.map Ru.d) j = some b.d ∧ Pure (.bl (two2 a b)) S R
theorem sem_law_is_two : ∀ ds S R, S_law_is_two ds S R → ds.length = 3 ∧ w_law_is_two S_law_shape_of (endsD R) (startD 3 ds) S := by
  rintro ds S R ⟨rl, rs, i, j, a, b, rfl, hr, a2, b2, h⟩
  refine ⟨rfl, ?_⟩
  simp [w_law_is_two, startD]
  rw [dIx_loc hr, a2]
  refine ⟨_, rfl, a, rfl, fun S2 y2 => ?_⟩
  dsimp only
  rw [dIx_loc (y2 _ _ hr), b2]
  refine ⟨_, rfl, b, rfl, fun S3 y3 => ?_⟩
  dsimp only
  rw [shp_eq]
  have hr3 := y3 _ _ (y2 _ _ hr)
  have h3 := h S3 (y2.trans y3)
  by_cases e : a.shp = b.shp
  · refine .inr ⟨by simp [e], ?_⟩
    rw [dIx_loc hr3, a2]
    refine ⟨_, rfl, ?_⟩
    rw [ru_gr]
    simp only [gr_non]
    have h4 : R (.bl (a.gr.isSome || b.gr.isSome)) S3 := by
      have : two2 a b = (a.gr.isSome || b.gr.isSome) := by simp [two2, e]
      rwa [this] at h3
    cases ha : a.gr.isSome with
    | true =>
      rw [ha] at h4
      exact .inr ⟨rfl, h4⟩
    | false =>
      rw [ha] at h4
      refine .inl ⟨rfl, ?_⟩
      rw [dIx_loc hr3, b2]
      refine ⟨_, rfl, ?_⟩
      rw [ru_gr, gr_non]
      simpa using h4
  · refine .inl ⟨by simp [e], ?_⟩
    simpa [two2, e] using h3

noncomputable def stp (rs : List Ru) (p : Int × Int) : List Int := match rs[p.2.toNat]?, rs[p.1.toNat]? with
  | some a, some b => (a.looks.filter fun q => decide (q.1 = b.shp)).map (·.2)
  | _, _ => []
def prevs (xs : List Int) : List Int := match xs.getLast? with
  | some l => l :: xs.dropLast
  | none => []
def resB (Ls : List (List Int)) : Bool := Ls.all (fun l => !l.isEmpty) && Ls.any fun l => decide ((1 : Int) ∈ l)
noncomputable def ringB (rs : List Ru) (xs : List Int) : Bool := !xs.isEmpty && xs.all (numB rs.length) && decide xs.Nodup && resB (((prevs xs).zip xs).map (stp rs))
theorem prevs_len (xs : List Int) : (prevs xs).length = xs.length := by
  unfold prevs
  cases e : xs.getLast? with
  | none => rw [List.getLast?_eq_none_iff] at e; rw [e]
  | some l =>
    have : xs ≠ [] := fun h => by rw [h] at e; cases e
    have := List.length_pos_iff.mpr this
    simp
    omega
theorem prevs_at {xs : List Int} {i : Nat} (h : i < xs.length) : ∃ l, (prevs xs)[i]? = some l ∧ l ∈ xs ∧ atI (xs.map D.int) ((i : Int) - 1) = some (.int l) := by
  have hne : xs ≠ [] := fun e => by rw [e] at h; cases h
  unfold prevs
  obtain ⟨l, e⟩ : ∃ l, xs.getLast? = some l := ⟨xs.getLast hne, List.getLast?_eq_some_getLast hne⟩
  rw [e]
  cases i with
  | zero =>
    refine ⟨l, rfl, List.mem_of_getLast? e, ?_⟩
    show atI _ (-1) = _
    rw [atI_neg1]
    rw [List.getLast?_eq_getElem?] at e
    simp [e]
  | succ i =>
    have hi : i < xs.length := by omega
    refine ⟨xs[i], ?_, List.getElem_mem hi, ?_⟩
    · simp only [List.getElem?_cons_succ]
      rw [List.getElem?_dropLast, if_pos (by omega), List.getElem?_eq_getElem hi]
    · have e2 : ((i + 1 : Nat) : Int) - 1 = i := by omega
      rw [e2, atI_nn (by omega)]
      simp [hi]
theorem looks01 {r : Ru} {q : D × Int} (h : q ∈ r.looks) : q.2 = 0 ∨ q.2 = 1 := by
  unfold Ru.looks at h
  obtain ⟨p, _, e⟩ := List.mem_filterMap.mp h
  cases p with
  | ot _ _ => cases e
  | lk neg w ts =>
    cases e
    dsimp only
    split
    · exact .inr rfl
    · exact .inl rfl
theorem looks_plain {r : Ru} {q : D × Int} (h : q ∈ r.looks) : plainD 100 q.1 = true := by
  unfold Ru.looks at h
  obtain ⟨p, _, e⟩ := List.mem_filterMap.mp h
  cases p with
  | ot _ _ => cases e
  | lk neg w ts =>
    cases e
    simp [shpD, plainD, plainsD]
theorem stp01 {rs : List Ru} {p : Int × Int} {x : Int} (h : x ∈ stp rs p) : x = 0 ∨ x = 1 := by
  unfold stp at h
  split at h
  · obtain ⟨q, hq, rfl⟩ := List.mem_map.mp h
    exact looks01 (List.mem_filter.mp hq).1
  · cases h
theorem looks_len (r : Ru) (h : okRu r) : r.looks.length ≤ 6 := Nat.le_trans (List.length_filterMap_le _ _) h.bl
theorem nodup_back {α : Type} [DecidableEq α] : ∀ {ks zs : List α}, zs.Nodup → (∀ k ∈ zs, k ∈ ks) → ks.length ≤ zs.length → ks.Nodup
  | [], _, _, _, _ => List.nodup_nil
  | k :: ks, zs, hn, hs, hl => by
    by_cases hk : k ∈ ks
    · have := List.Nodup.length_le_of_subset hn (fun z hz => by
        rcases List.mem_cons.mp (hs z hz) with e | h
        · rw [e]; exact hk
        · exact h : zs ⊆ ks)
      simp only [List.length_cons] at hl
      omega
    · refine List.nodup_cons.mpr ⟨hk, nodup_back (zs := zs.erase k) (hn.erase k) (fun z hz => ?_) ?_⟩
      · have hz' : z ≠ k ∧ z ∈ zs := (List.Nodup.mem_erase_iff hn).mp hz
        rcases List.mem_cons.mp (hs z hz'.2) with e | h
        · exact absurd e hz'.1
        · exact h
      · have := List.length_erase (a := k) (l := zs)
        simp only [List.length_cons] at hl
        rw [this]
        split <;> omega
theorem set_len {xs : List Int} {zs : List Key} (hn : zs.Nodup) (hm : ∀ k, k ∈ zs ↔ k ∈ xs.map Sum.inl) : (xs.length ≤ zs.length ↔ xs.Nodup) := by
  constructor
  · intro hl
    have := nodup_back hn (fun k hk => (hm k).mp hk) (by simpa using hl)
    rw [List.nodup_iff_pairwise_ne, List.pairwise_map] at this
    rw [List.nodup_iff_pairwise_ne]
    exact this.imp fun h e => h (by rw [e])
  · intro hx
    have hk : (xs.map (Sum.inl : Int → Key)).Nodup := by
      rw [List.nodup_iff_pairwise_ne, List.pairwise_map]
      exact (List.nodup_iff_pairwise_ne.mp hx).imp fun h e => h (by cases e; rfl)
    have := List.Nodup.length_le_of_subset hk (fun z hz => (hm z).mpr hz : xs.map Sum.inl ⊆ zs)
    simpa using this
noncomputable def ringA (rs : List Ru) : D → Bool
  | .tup ds => match intsD ds with
    | some xs => ringB rs xs
    | none => false
  | _ => false
theorem ints_of : ∀ {ds : List D} {xs : List Int}, intsD ds = some xs → ds = xs.map D.int
  | [], xs, h => by
    cases h
    rfl
  | d :: ds, xs, h => by
    cases d with
    | int i =>
      simp only [intsD, Option.map_eq_some_iff] at h
      obtain ⟨ys, h1, rfl⟩ := h
      rw [ints_of h1]
      rfl
    | _ => simp [intsD] at h
theorem ints_none (n : Nat) : ∀ {ds : List D}, intsD ds = none → ∃ d ∈ ds, numA n d = false
  | [], h => by cases h
  | d :: ds, h => by
    cases d with
    | int i =>
      simp only [intsD, Option.map_eq_none_iff] at h
      obtain ⟨e, he, q⟩ := ints_none n h
      exact ⟨e, List.mem_cons_of_mem _ he, q⟩
    | _ => exact ⟨_, List.mem_cons_self, rfl⟩
theorem ring_forms (rs : List Ru) (d : D) : (∃ xs : List Int, d = .tup (xs.map D.int)) ∨ (∃ ds, d = .tup ds ∧ intsD ds = none ∧ ringA rs d = false) ∨ ((∀ ds, d ≠ .tup ds) ∧ ringA rs d = false) := by
  cases d with
  | tup ds =>
    cases e : intsD ds with
    | some xs => exact .inl ⟨xs, by rw [ints_of e]⟩
    | none => exact .inr (.inl ⟨ds, rfl, e, by simp [ringA, e]⟩)
  | _ => exact .inr (.inr ⟨fun _ => by simp, rfl⟩)
theorem ringA_ints (rs : List Ru) (xs : List Int) : ringA rs (.tup (xs.map D.int)) = ringB rs xs := by simp [ringA, intsD_map]
def S_is_ring : DSp := fun ds S R => ∃ (rl : Nat) (rs : List Ru) (d : D), ds = [.loc rl, d] ∧ S[rl]? = some (.lst (rs.map Ru.d)) ∧ (∀ r ∈ rs, okRu r) ∧ KnD S d ∧ Pure (.bl (ringA rs d)) S R
theorem sem_is_ring : ∀ ds S R, S_is_ring ds S R → ds.length = 2 ∧ w_is_ring S_is_number S_rule_shape S_looked_at (endsD R) (startD 9 ds) S := by
  rintro ds S R ⟨rl, rs, d, rfl, hr, ho, hd, h⟩
  refine ⟨rfl, ?_⟩
  rcases ring_forms rs d with ⟨xs, rfl⟩ | ⟨ds, rfl, hi, he⟩ | ⟨hn, he⟩
  rotate_left
  · rw [he] at h
    have hsl : sizeLine = 16777216 := sizeLine_eq
    obtain ⟨hl, hk⟩ := hd.tupI
    obtain ⟨y, hy, hyn⟩ := ints_none rs.length hi
    have hne : ds ≠ [] := fun e => by subst e; cases hy
    simp [w_is_ring, startD]
    refine .inl ⟨hne, ?_⟩
    have hm : ∀ (chk : Sto → Prop) (g : WG) (e : WE) (τ : DEnv) (R : DQ) (S : Sto), lcGo chk g wYes e τ R (ds.map id) [] S → lcGo chk g wYes e τ R ds [] S := fun _ _ _ _ _ _ z => by simpa using z
    refine hm _ _ _ _ _ _ ?_
    refine lc_over (as := ds) id (fun x => D.bl (numA rs.length x)) (Le S) (Le.refl S) (fun _ _ => trivial) (by omega) (fun x S' N hxm hS hN => ?_) fun S' hS => ?_
    · simp [wipeD]
      refine ⟨rl, _, x, rfl, hS _ _ hr, (hk x hxm).le hS, ?_⟩
      rw [map_len]
      exact hN S' hS
    · refine ⟨_, ⟨_, lstD_loc get_new⟩, _, blsD_mapf (f := fun x => numA rs.length x) _, .inl ⟨?_, h _ (hS.trans (Le.app _ _))⟩⟩
      exact List.mem_map.mpr ⟨y, hy, hyn⟩
  · rw [he] at h
    have h0 := h.here
    cases hd with
    | tup _ _ => exact absurd rfl (hn _)
    | lst e => simpa [w_is_ring, startD, typD_lst e] using h0
    | dct e => simpa [w_is_ring, startD, typD_dct e] using h0
    | _ => simpa [w_is_ring, startD] using h0
  have hl := hd.tupI.1
  rw [List.length_map] at hl
  rw [ringA_ints] at h
  clear hd
  have hsl : sizeLine = 16777216 := sizeLine_eq
  have hz1 : 1 ≤ sizeLine := by omega
  simp [w_is_ring, startD]
  by_cases hx : xs = []
  · subst hx
    have h0 := h.here
    exact .inr ⟨rfl, by simpa [ringB] using h0⟩
  refine .inl ⟨by simpa using hx, ?_⟩
  refine lc_over (as := xs) D.int (fun x => D.bl (numB rs.length x)) (Le S) (Le.refl S) (fun _ _ => trivial) (by omega) (fun x S' N hxm hS hN => ?_) fun S' hS => ?_
  · simp [wipeD]
    refine ⟨rl, _, .int x, rfl, hS _ _ hr, .int, ?_⟩
    rw [map_len]
    exact hN S' hS
  · refine ⟨_, ⟨_, lstD_loc get_new⟩, _, blsD_mapf (f := fun x => numB rs.length x) _, ?_⟩
    have y1 := hS.trans (Le.app S' [.lst (xs.map fun x => D.bl (numB rs.length x))])
    generalize S' ++ [.lst (xs.map fun x => D.bl (numB rs.length x))] = S1 at y1
    have hR := h S1 y1
    by_cases hall : xs.all (numB rs.length) = true
    · refine .inr ⟨fun hm => ?_, xs.map Sum.inl, by simp [kD], by simp; omega, fun zs zn zm => ?_⟩
      · obtain ⟨x, hx1, hx2⟩ := List.mem_map.mp hm
        have := List.all_eq_true.mp hall x hx1
        rw [this] at hx2
        cases hx2
      · have sl := set_len zn zm
        by_cases hnd : xs.Nodup
        · refine .inl ⟨sl.mpr hnd, ?_⟩
          have eB : ringB rs xs = resB (((prevs xs).zip xs).map (stp rs)) := by simp [ringB, hx, hall, hnd]
          have hr1 := y1 _ _ hr
          have hnum : ∀ x ∈ xs, numB rs.length x = true := fun x hx => List.all_eq_true.mp hall x hx
          have hpl := prevs_len xs
          refine forGo_run (fun items τ S' => ∃ (i : Nat) (g : Int) (v2 v4 v5 v6 v7 v8 : Option D), items = (enumD (xs.map D.int)).drop i ∧ i ≤ xs.length ∧ τ = [some (.loc rl), some (.tup (xs.map D.int)), v2, some (.int g), v4, v5, v6, v7, v8] ∧ (((prevs xs).zip xs).map (stp rs)).length = xs.length ∧
              (∀ L ∈ (((prevs xs).zip xs).map (stp rs)).take i, L ≠ []) ∧ (g = if ((((prevs xs).zip xs).map (stp rs)).take i).any (fun l => decide ((1 : Int) ∈ l)) then 1 else 0) ∧ Le S S')
            ⟨0, 0, _, _, _, _, _, _, rfl, Nat.zero_le _, rfl, by simp [hpl], by simp, by simp, y1⟩ ?_ ?_
          · rintro τ S' ⟨i, g, v2, v4, v5, v6, v7, v8, r0, r1, rfl, rl2, r2, r3, r4⟩
            refine ⟨trivial, ?_⟩
            have hi : i = xs.length := by
              have := congrArg List.length r0
              simp [enumD] at this
              omega
            subst hi
            rw [List.take_of_length_le (by omega)] at r2 r3
            have h5 := h S' r4
            rw [eB] at h5
            have e1 : (((prevs xs).zip xs).map (stp rs)).all (fun l => !l.isEmpty) = true := List.all_eq_true.mpr fun L hL => by
              have := r2 L hL
              cases L with
              | nil => exact absurd rfl this
              | cons _ _ => rfl
            rw [resB, e1, Bool.true_and] at h5
            simp
            rw [r3]
            cases hb : (((prevs xs).zip xs).map (stp rs)).any (fun l => decide ((1 : Int) ∈ l)) with
            | true => rw [hb] at h5; simpa using h5
            | false => rw [hb] at h5; simpa using h5
          · rintro it q τ S' N ⟨i, g, v2, v4, v5, v6, v7, v8, r0, r1, rfl, rl2, r2, r3, r4⟩ hN
            refine ⟨trivial, ?_⟩
            have e1 := congrArg List.head? r0
            have e2 := congrArg List.tail r0
            simp only [List.head?_cons, List.head?_drop, List.tail_cons, List.tail_drop] at e1 e2
            obtain ⟨x', hx', rfl⟩ := enum_get e1.symm
            obtain ⟨x, hxi, rfl⟩ : ∃ x, xs[i]? = some x ∧ x' = .int x := by
              rw [List.getElem?_map] at hx'
              cases h9 : xs[i]? with
              | none => rw [h9] at hx'; cases hx'
              | some x => rw [h9] at hx'; cases hx'; exact ⟨x, rfl, rfl⟩
            have hi : i < xs.length := (List.getElem?_eq_some_iff.mp hxi).1
            obtain ⟨l, pl1, pl2, pl3⟩ := prevs_at hi
            have eQ : (((prevs xs).zip xs).map (stp rs))[i]? = some (stp rs (l, x)) := by
              rw [List.getElem?_map]
              have : ((prevs xs).zip xs)[i]? = some (l, x) := List.getElem?_zip_eq_some.mpr ⟨pl1, hxi⟩
              rw [this]
              rfl
            obtain ⟨b, b1, b2, b3⟩ := numB_at (hnum l pl2)
            obtain ⟨a, a1, a2, a3⟩ := numB_at (hnum x (List.mem_of_getElem? hxi))
            have estp : stp rs (l, x) = (a.looks.filter fun q => decide (q.1 = b.shp)).map (·.2) := by simp [stp, a1, b1]
            simp
            refine ⟨_, pl3, ?_⟩
            have hr' := r4 _ _ hr
            rw [dIx_loc hr', b2]
            refine ⟨_, rfl, b, rfl, fun S2 y2 => ?_⟩
            dsimp only
            rw [dIx_loc (y2 _ _ hr'), a2]
            refine ⟨_, rfl, a, rfl, ho a a3, fun m S3 k3 y3 => ?_⟩
            dsimp only
            refine ⟨_, _, itemsD_loc k3, ?_⟩
            have hll := looks_len a (ho a a3)
            refine lc_filt (as := a.looks) lkD (fun q => D.int q.2) (fun q => decide (q.1 = b.shp)) (Le S3) (Le.refl S3) (fun S4 y => y _ _ k3) (by omega) (fun q S4 K1 K2 hq y g1 g2 => ?_) fun S4 y4 => ?_
            · have eq1 : eqD S4 q.1 b.shp = some (decide (q.1 = b.shp)) := eqD_plain (looks_plain hq) (shp_plain b)
              simp [wipeD, lkD, eq1]
              by_cases he : q.1 = b.shp
              · exact .inr ⟨he, g1 (by simp [he]) S4 y⟩
              · exact .inl ⟨he, g2 (by simp [he]) S4 y⟩
            · have e5 : (a.looks.filter fun q => decide (q.1 = b.shp)).map (fun q => D.int q.2) = (stp rs (l, x)).map D.int := by rw [estp, List.map_map]; rfl
              rw [e5]
              have y05 : Le S' (S4 ++ [O.lst ((stp rs (l, x)).map D.int)]) := y2.trans (y3.trans (y4.trans (Le.app _ _)))
              have hst : (stp rs (l, x)).length ≤ 6 := by rw [estp, List.length_map]; exact Nat.le_trans (List.length_filter_le _ _) hll
              generalize hS5 : S4 ++ [O.lst ((stp rs (l, x)).map D.int)] = S5 at y05
              have k5 : S5[S4.length]? = some (.lst ((stp rs (l, x)).map D.int)) := by rw [← hS5]; exact get_new
              have pl5 : plainsD 100 ((stp rs (l, x)).map D.int) = true := plains_of fun d hd => by
                obtain ⟨z, _, rfl⟩ := List.mem_map.mp hd
                simp [plainD]
              have eqe : eqD (S5 ++ [O.lst []]) (.loc S4.length) (.loc S5.length) = some (decide ((stp rs (l, x)).map D.int = [])) := eqD_lsts (get_app k5) get_new pl5 (by simp [plainsD])
              rw [eqe]
              by_cases hz : stp rs (l, x) = []
              · refine .inr ⟨by simp [hz], ?_⟩
                have h5 := h _ (r4.trans (y05.trans (Le.app S5 [O.lst []])))
                have : resB (((prevs xs).zip xs).map (stp rs)) = false := by
                  have : (((prevs xs).zip xs).map (stp rs)).all (fun l => !l.isEmpty) = false := by
                    rw [List.all_eq_false]
                    exact ⟨_, List.mem_of_getElem? eQ, by simp [hz]⟩
                  rw [resB, this, Bool.false_and]
                rw [eB, this] at h5
                exact h5
              · refine .inl ⟨by simp [hz], hz1, ?_⟩
                rw [dAdd_loc]
                refine ⟨[.int g], (stp rs (l, x)).map D.int, by rw [get_at]; rfl, get_app k5, by simp; omega, ?_⟩
                have e6 : [D.int g] ++ (stp rs (l, x)).map D.int = (g :: stp rs (l, x)).map D.int := rfl
                rw [e6]
                refine ⟨_, _, g :: stp rs (l, x), rfl, lstD_loc get_new, intsD_map _, by simp, fun m hm hmax => ?_⟩
                have hQ : (((prevs xs).zip xs).map (stp rs)).take (i + 1) = (((prevs xs).zip xs).map (stp rs)).take i ++ [stp rs (l, x)] := by rw [List.take_add_one, eQ]; rfl
                refine hN _ _ ⟨i + 1, m, _, _, _, _, _, _, by rw [e2], by omega, rfl, rl2, fun L hL => ?_, ?_, r4.trans (y05.trans ((Le.app _ _).trans (Le.app _ _)))⟩
                · rw [hQ] at hL
                  rcases List.mem_append.mp hL with hL | hL
                  · exact r2 L hL
                  · rw [List.mem_singleton.mp hL]; exact hz
                · rw [hQ, List.any_append, List.any_cons, List.any_nil, Bool.or_false]
                  have g01 : g = 0 ∨ g = 1 := by rw [r3]; split <;> simp
                  have m01 : m = 0 ∨ m = 1 := by
                    rcases List.mem_cons.mp hm with rfl | hm
                    · exact g01
                    · exact stp01 hm
                  by_cases h1 : (1 : Int) ∈ stp rs (l, x)
                  · have := hmax 1 (List.mem_cons_of_mem _ h1)
                    rw [if_pos (by simp [h1])]
                    omega
                  · have e7 : decide ((1 : Int) ∈ stp rs (l, x)) = false := by simp [h1]
                    rw [e7, Bool.or_false, ← r3]
                    have hg := hmax g List.mem_cons_self
                    rcases List.mem_cons.mp hm with rfl | hm
                    · rfl
                    · rcases stp01 hm with rfl | rfl
                      · omega
                      · exact absurd hm h1
        · refine .inr ⟨by have := mt sl.mp hnd; omega, ?_⟩
          have : ringB rs xs = false := by simp [ringB, hnd]
          rwa [this] at hR
    · refine .inl ⟨?_, ?_⟩
      · obtain ⟨x, hx1, hx2⟩ : ∃ x ∈ xs, numB rs.length x = false := by simpa using hall
        exact List.mem_map.mpr ⟨x, hx1, hx2⟩
      · have : ringB rs xs = false := by simp only [ringB, Bool.not_eq_true] at hall ⊢; rw [hall]; simp
        rwa [this] at hR

def nexts (xs : List Int) : List Int := xs.drop 1 ++ xs.take 1
theorem nexts_len (xs : List Int) : (nexts xs).length = xs.length := by
  unfold nexts
  simp
  omega
theorem pairs_mem {xs : List Int} (p : Int × Int) : p ∈ (prevs xs).zip xs ↔ p ∈ xs.zip (nexts xs) := by
  cases xs with
  | nil => simp
  | cons h t =>
    have hne : h :: t ≠ [] := by simp
    have e1 : h :: t = (h :: t).dropLast ++ [(h :: t).getLast hne] := (List.dropLast_concat_getLast hne).symm
    have ep : prevs (h :: t) = (h :: t).getLast hne :: (h :: t).dropLast := by
      unfold prevs
      rw [List.getLast?_eq_some_getLast hne]
    have en : nexts (h :: t) = t ++ [h] := by simp [nexts]
    have hl : (h :: t).dropLast.length = t.length := by simp
    have z1 : (prevs (h :: t)).zip (h :: t) = ((h :: t).getLast hne, h) :: (h :: t).dropLast.zip t := by rw [ep]; rfl
    have z2 : (h :: t).zip (nexts (h :: t)) = (h :: t).dropLast.zip t ++ [((h :: t).getLast hne, h)] := by
      rw [en]
      conv => lhs; rw [e1]
      rw [List.zip_append hl]
      rfl
    rw [z1, z2]
    simp [or_comm]
theorem resB_eq {rs : List Ru} {P Q : List (Int × Int)} (h : ∀ p, p ∈ P ↔ p ∈ Q) : resB (P.map (stp rs)) = resB (Q.map (stp rs)) := by
  have e1 : (P.map (stp rs)).all (fun l => !l.isEmpty) = (Q.map (stp rs)).all (fun l => !l.isEmpty) := by
    rw [Bool.eq_iff_iff, List.all_eq_true, List.all_eq_true]
    constructor
    · intro g L hL
      obtain ⟨p, hp, rfl⟩ := List.mem_map.mp hL
      exact g _ (List.mem_map_of_mem ((h p).mpr hp))
    · intro g L hL
      obtain ⟨p, hp, rfl⟩ := List.mem_map.mp hL
      exact g _ (List.mem_map_of_mem ((h p).mp hp))
  have e2 : (P.map (stp rs)).any (fun l => decide ((1 : Int) ∈ l)) = (Q.map (stp rs)).any (fun l => decide ((1 : Int) ∈ l)) := by
    rw [Bool.eq_iff_iff, List.any_eq_true, List.any_eq_true]
    constructor
    · rintro ⟨L, hL, g⟩
      obtain ⟨p, hp, rfl⟩ := List.mem_map.mp hL
      exact ⟨_, List.mem_map_of_mem ((h p).mp hp), g⟩
    · rintro ⟨L, hL, g⟩
      obtain ⟨p, hp, rfl⟩ := List.mem_map.mp hL
      exact ⟨_, List.mem_map_of_mem ((h p).mpr hp), g⟩
  rw [resB, resB, e1, e2]
theorem cutD_to {xs : List D} {m : Int} (h : 0 ≤ m) : cutD xs none (some m) = xs.take m.toNat := by
  have h' : ¬ m < 0 := by omega
  simp [cutD, HT.sIx, h']
theorem cutD_from {xs : List D} {m : Int} (h : 0 ≤ m) : cutD xs (some m) none = xs.drop m.toNat := by
  have h' : ¬ m < 0 := by omega
  simp [cutD, HT.sIx, h']
  by_cases h2 : m.toNat ≤ xs.length
  · rw [Nat.min_eq_left h2, List.take_of_length_le (by simp)]
  · rw [Nat.min_eq_right (by omega), List.drop_length, List.drop_of_length_le (by omega)]
    simp
/-- the greatest of noughts and ones -/
def mx01 (L : List Int) : Int := if (1 : Int) ∈ L then 1 else 0
theorem mx01_of {L : List Int} {m : Int} (h01 : ∀ x ∈ L, x = 0 ∨ x = 1) (hm : m ∈ L) (hmax : ∀ y ∈ L, y ≤ m) : m = mx01 L := by
  unfold mx01
  by_cases h1 : (1 : Int) ∈ L
  · rw [if_pos h1]
    have := hmax 1 h1
    rcases h01 m hm with e | e <;> omega
  · rw [if_neg h1]
    rcases h01 m hm with e | e
    · exact e
    · exact absurd (e ▸ hm) h1
/-- the keys of pairs put one by one -/
theorem zipK_keys : ∀ (ps : List (Key × D)) (acc : List (D × D)), (acc.map (·.1)).Nodup → ((zipK acc ps).map (·.1)).Nodup ∧ ∀ d, d ∈ (zipK acc ps).map (·.1) ↔ d ∈ acc.map (·.1) ∨ d ∈ ps.map fun p => kD p.1
  | [], acc, h => ⟨by simpa [zipK] using h, by simp [zipK]⟩
  | p :: ps, acc, h => by
    have hk : ((putP acc (kD p.1) p.2).map (·.1)).Nodup ∧ ∀ d, d ∈ (putP acc (kD p.1) p.2).map (·.1) ↔ d ∈ acc.map (·.1) ∨ d = kD p.1 := by
      have hs : (getP acc (kD p.1)).isSome = true ↔ kD p.1 ∈ acc.map (·.1) := by
        unfold getP
        rw [Option.isSome_map, List.find?_isSome]
        simp
      unfold putP
      by_cases c : (getP acc (kD p.1)).isSome = true
      · rw [if_pos c]
        have e : (acc.map fun q => if q.1 = kD p.1 then (q.1, p.2) else q).map (·.1) = acc.map (·.1) := by
          rw [List.map_map]
          apply List.map_congr_left
          intro q _
          simp only [Function.comp]
          split <;> rfl
        rw [e]
        exact ⟨h, fun d => ⟨.inl, fun z => z.elim id fun e => e ▸ hs.mp c⟩⟩
      · rw [if_neg c]
        have hn : kD p.1 ∉ acc.map (·.1) := fun z => c (hs.mpr z)
        refine ⟨?_, fun d => by simp⟩
        rw [List.map_append, List.nodup_append]
        refine ⟨h, by simp, fun a ha b hb q => ?_⟩
        rw [List.map_cons, List.map_nil, List.mem_singleton] at hb
        exact hn (by rw [q, hb] at ha; exact ha)
    obtain ⟨g1, g2⟩ := zipK_keys ps _ hk.1
    have e : zipK acc (p :: ps) = zipK (putP acc (kD p.1) p.2) ps := rfl
    rw [e]
    refine ⟨g1, fun d => ?_⟩
    rw [g2, hk.2, List.map_cons, List.mem_cons, or_assoc]
theorem zipK_len {xs : List Int} : xs.length ≤ (zipK [] (xs.map fun x => ((Sum.inl x : Key), D.bl true))).length ↔ xs.Nodup := by
  obtain ⟨g1, g2⟩ := zipK_keys (xs.map fun x => ((Sum.inl x : Key), D.bl true)) [] (by simp)
  have hm : ∀ d, d ∈ (zipK [] (xs.map fun x => ((Sum.inl x : Key), D.bl true))).map (·.1) ↔ d ∈ xs.map D.int := fun d => by
    rw [g2 d, List.map_map]
    simp [kD]
  constructor
  · intro hl
    have := nodup_back g1 (fun k hk => (hm k).mp hk) (by simpa using hl)
    rw [List.nodup_iff_pairwise_ne, List.pairwise_map] at this
    rw [List.nodup_iff_pairwise_ne]
    exact this.imp fun h e => h (by rw [e])
  · intro hx
    have hk : (xs.map D.int).Nodup := by
      rw [List.nodup_iff_pairwise_ne, List.pairwise_map]
      exact (List.nodup_iff_pairwise_ne.mp hx).imp fun h e => h (by cases e; rfl)
    have := List.Nodup.length_le_of_subset hk (fun z hz => (hm z).mpr hz : xs.map D.int ⊆ _)
    simpa using this
def S_law_is_ring : DSp := fun ds S R => ∃ (rl : Nat) (rs : List Ru) (d : D), ds = [.loc rl, d] ∧ S[rl]? = some (.lst (rs.map Ru.d)) ∧ (∀ r ∈ rs, okRu r) ∧ KnD S d ∧ Pure (.bl (ringA rs d)) S R
theorem sem_law_is_ring : ∀ ds S R, S_law_is_ring ds S R → ds.length = 2 ∧ w_law_is_ring S_law_number S_law_looks S_law_shape_of (endsD R) (startD 8 ds) S := by
  rintro ds S R ⟨rl, rs, d, rfl, hr, ho, hd, h⟩
  refine ⟨rfl, ?_⟩
  rcases ring_forms rs d with ⟨xs, rfl⟩ | ⟨ds, rfl, hi, he⟩ | ⟨hn, he⟩
  rotate_left
  · rw [he] at h
    have hsl : sizeLine = 16777216 := sizeLine_eq
    obtain ⟨hl, hk⟩ := hd.tupI
    obtain ⟨y, hy, hyn⟩ := ints_none rs.length hi
    have hne : ds ≠ [] := fun e => by subst e; cases hy
    simp [w_law_is_ring, startD]
    refine .inl ⟨hne, ?_⟩
    have hm : ∀ (chk : Sto → Prop) (g : WG) (e : WE) (τ : DEnv) (R : DQ) (S : Sto), lcGo chk g wYes e τ R (ds.map id) [] S → lcGo chk g wYes e τ R ds [] S := fun _ _ _ _ _ _ z => by simpa using z
    refine hm _ _ _ _ _ _ ?_
    refine lc_over (as := ds) id (fun x => D.bl (numA rs.length x)) (Le S) (Le.refl S) (fun _ _ => trivial) (by omega) (fun x S' N hxm hS hN => ?_) fun S' hS => ?_
    · simp [wipeD]
      refine ⟨rl, _, x, rfl, hS _ _ hr, (hk x hxm).le hS, ?_⟩
      rw [map_len]
      exact hN S' hS
    · refine ⟨_, ⟨_, lstD_loc get_new⟩, _, blsD_mapf (f := fun x => numA rs.length x) _, .inl ⟨?_, h _ (hS.trans (Le.app _ _))⟩⟩
      exact List.mem_map.mpr ⟨y, hy, hyn⟩
  · rw [he] at h
    have h0 := h.here
    cases hd with
    | tup _ _ => exact absurd rfl (hn _)
    | lst e => simpa [w_law_is_ring, startD, typD_lst e] using h0
    | dct e => simpa [w_law_is_ring, startD, typD_dct e] using h0
    | _ => simpa [w_law_is_ring, startD] using h0
  have hl := hd.tupI.1
  rw [List.length_map] at hl
  rw [ringA_ints] at h
  clear hd
  have hsl : sizeLine = 16777216 := sizeLine_eq
  have hz1 : 1 ≤ sizeLine := by omega
  have hz2 : 2 ≤ sizeLine := by omega
  simp [w_law_is_ring, startD]
  by_cases hx : xs = []
  · subst hx
    exact .inr ⟨rfl, by simpa [ringB] using h.here⟩
  refine .inl ⟨hx, ?_⟩
  refine lc_over (as := xs) D.int (fun x => D.bl (numB rs.length x)) (Le S) (Le.refl S) (fun _ _ => trivial) (by omega) (fun x S' N hxm hS hN => ?_) fun S' hS => ?_
  · simp [wipeD]
    refine ⟨rl, _, .int x, rfl, hS _ _ hr, .int, ?_⟩
    rw [map_len]
    exact hN S' hS
  · refine ⟨_, ⟨_, lstD_loc get_new⟩, _, blsD_mapf (f := fun x => numB rs.length x) _, ?_⟩
    have y1 := hS.trans (Le.app S' [.lst (xs.map fun x => D.bl (numB rs.length x))])
    generalize S' ++ [.lst (xs.map fun x => D.bl (numB rs.length x))] = S1 at y1
    by_cases hall : xs.all (numB rs.length) = true
    · refine .inr ⟨fun hm => ?_, ?_⟩
      · obtain ⟨x, hx1, hx2⟩ := List.mem_map.mp hm
        have := List.all_eq_true.mp hall x hx1
        rw [this] at hx2
        cases hx2
      · refine lc_over (as := xs) D.int (fun x => D.tup [.int x, .bl true]) (Le S1) (Le.refl S1) (fun _ _ => trivial) (by omega) (fun x S' N hxm hS hN => ?_) fun S2 hS2 => ?_
        · simp [wipeD, hz2]
          exact hN S' hS
        · rw [dDictP_ap]
          refine ⟨_, xs.map fun x => ((Sum.inl x : Key), D.bl true), lstD_loc get_new, by simp [kD], fun ep => ?_⟩
          have y2 := y1.trans (hS2.trans ((Le.app S2 [.lst (xs.map fun x => D.tup [.int x, .bl true])]).trans (Le.app _ [.dct ep (zipK [] (xs.map fun x => ((Sum.inl x : Key), D.bl true)))])))
          have kd : (S2 ++ [.lst (xs.map fun x => D.tup [.int x, .bl true])] ++ [.dct ep (zipK [] (xs.map fun x => ((Sum.inl x : Key), D.bl true)))])[(S2 ++ [O.lst (xs.map fun x => D.tup [.int x, .bl true])]).length]? = some (.dct ep (zipK [] (xs.map fun x => ((Sum.inl x : Key), D.bl true)))) := get_new
          generalize (S2 ++ [O.lst (xs.map fun x => D.tup [.int x, .bl true])]).length = dl at kd ⊢
          generalize S2 ++ [.lst (xs.map fun x => D.tup [.int x, .bl true])] ++ [.dct ep (zipK [] (xs.map fun x => ((Sum.inl x : Key), D.bl true)))] = S3 at y2 kd
          rw [dLen_dct kd]
          have zl := zipK_len (xs := xs)
          simp
          by_cases hnd : xs.Nodup
          · refine .inl ⟨zl.mpr hnd, ?_, ?_⟩
            · rw [cutD_from (by decide), cutD_to (by decide)]
              simp
              omega
            have ec : cutD (xs.map D.int) (some 1) none ++ cutD (xs.map D.int) none (some 1) = (nexts xs).map D.int := by
              rw [cutD_from (by decide), cutD_to (by decide)]
              simp [nexts]
            rw [ec]
            have ez : zipD (xs.map D.int) ((nexts xs).map D.int) = (xs.zip (nexts xs)).map fun p => D.tup [.int p.1, .int p.2] := by
              unfold zipD
              rw [List.zip_map, List.map_map]
              rfl
            rw [ez]
            have eB : ringB rs xs = resB ((xs.zip (nexts xs)).map (stp rs)) := by
              rw [← resB_eq (P := (prevs xs).zip xs) fun p => pairs_mem p]
              simp [ringB, hx, hall, hnd]
            have hnum : ∀ x ∈ xs, numB rs.length x = true := fun x hx => List.all_eq_true.mp hall x hx
            have hnx : ∀ x ∈ nexts xs, x ∈ xs := fun x hx => by
              rcases List.mem_append.mp hx with hx | hx
              · exact List.mem_of_mem_drop hx
              · exact List.mem_of_mem_take hx
            have hzl : (xs.zip (nexts xs)).length = xs.length := by simp [nexts_len]
            have hS3 : ∀ j o, S[j]? = some o → j < S3.length := fun j o e => lt_of_get (y2 _ _ e)
            refine forGo_run (fun items τ S' => ∃ (us vs : List (Int × Int)) (v2 v4 v5 v6 v7 : Option D), xs.zip (nexts xs) = us ++ vs ∧ items = vs.map (fun p => D.tup [.int p.1, .int p.2]) ∧ τ = [some (.loc rl), some (.tup (xs.map D.int)), v2, some (.loc S3.length), v4, v5, v6, v7] ∧
                S'[S3.length]? = some (.lst (((us.map (stp rs)).map mx01).map D.int)) ∧ (∀ L ∈ us.map (stp rs), L ≠ []) ∧ Le S3 S')
              ⟨[], xs.zip (nexts xs), _, _, _, _, _, rfl, rfl, rfl, get_new, by simp, Le.app _ _⟩ ?_ ?_
            · rintro τ S' ⟨us, vs, v2, v4, v5, v6, v7, r0, r1, rfl, r2, r3, r4⟩
              refine ⟨trivial, ?_⟩
              have e : vs = [] := by simpa using r1.symm
              subst e
              rw [List.append_nil] at r0
              subst r0
              have h5 := h S' (y2.trans r4)
              rw [eB] at h5
              simp
              refine ⟨_, _, ((xs.zip (nexts xs)).map (stp rs)).map mx01, rfl, lstD_loc r2, intsD_map _, by simp only [List.length_map, hzl]; exact List.length_pos_iff.mpr hx, fun m hm hmax => ?_⟩
              have e1 : ((xs.zip (nexts xs)).map (stp rs)).all (fun l => !l.isEmpty) = true := List.all_eq_true.mpr fun L hL => by
                have := r3 L hL
                cases L with
                | nil => exact absurd rfl this
                | cons _ _ => rfl
              rw [resB, e1, Bool.true_and] at h5
              have em := mx01_of (fun y hy => by
                obtain ⟨L, _, rfl⟩ := List.mem_map.mp hy
                unfold mx01
                split
                · exact .inr rfl
                · exact .inl rfl) hm hmax
              have eb : (((xs.zip (nexts xs)).map (stp rs)).any fun l => decide ((1 : Int) ∈ l)) = decide (m = 1) := by
                rw [em, Bool.eq_iff_iff, List.any_eq_true]
                simp only [decide_eq_true_eq]
                constructor
                · rintro ⟨L, hL, g⟩
                  unfold mx01
                  rw [if_pos]
                  exact List.mem_map.mpr ⟨L, hL, show (if (1 : Int) ∈ L then (1 : Int) else 0) = 1 from if_pos g⟩
                · intro g
                  have g1 : (1 : Int) ∈ ((xs.zip (nexts xs)).map (stp rs)).map mx01 := by
                    by_cases c : (1 : Int) ∈ ((xs.zip (nexts xs)).map (stp rs)).map mx01
                    · exact c
                    · rw [mx01, if_neg c] at g
                      cases g
                  obtain ⟨L, hL, g2⟩ := List.mem_map.mp g1
                  refine ⟨L, hL, ?_⟩
                  by_cases c : (1 : Int) ∈ L
                  · exact c
                  · rw [mx01, if_neg c] at g2
                    cases g2
              rw [eb] at h5
              dsimp only
              rw [eqD_int]
              exact bl_or h5
            · rintro it q τ S' N ⟨us, vs, v2, v4, v5, v6, v7, r0, r1, rfl, r2, r3, r4⟩ hN
              refine ⟨trivial, ?_⟩
              cases vs with
              | nil => cases r1
              | cons p vs =>
              simp only [List.map_cons, List.cons.injEq] at r1
              obtain ⟨rfl, rfl⟩ := r1
              have hpm : p ∈ xs.zip (nexts xs) := by rw [r0]; simp
              have hp1 : p.1 ∈ xs := (List.of_mem_zip (a := p.1) (b := p.2) hpm).1
              have hp2 : p.2 ∈ xs := hnx _ (List.of_mem_zip (a := p.1) (b := p.2) hpm).2
              obtain ⟨b, b1, b2, b3⟩ := numB_at (hnum _ hp1)
              obtain ⟨a, a1, a2, a3⟩ := numB_at (hnum _ hp2)
              have estp : stp rs p = (a.looks.filter fun q => decide (q.1 = b.shp)).map (·.2) := by simp [stp, a1, b1]
              have hus : us.length < xs.length := by rw [← hzl, r0]; simp
              simp
              have hr' := r4 _ _ (y2 _ _ hr)
              rw [dIx_loc hr', a2]
              refine ⟨_, rfl, a, rfl, ho a a3, fun m S4 k4 y4 => ?_⟩
              dsimp only
              refine ⟨_, _, itemsD_loc k4, ?_⟩
              have hll := looks_len a (ho a a3)
              refine lc_filt (as := a.looks) lkD (fun q => D.int q.2) (fun q => decide (q.1 = b.shp)) (Le S4) (Le.refl S4) (fun S5 y => y _ _ k4) (by omega) (fun q S5 K1 K2 hq y g1 g2 => ?_) fun S5 y5 => ?_
              · simp [wipeD, lkD]
                rw [dIx_loc (y _ _ (y4 _ _ hr')), b2]
                refine ⟨_, rfl, b, rfl, fun S6 y6 => ?_⟩
                have eq1 : eqD S6 q.1 b.shp = some (decide (q.1 = b.shp)) := eqD_plain (looks_plain hq) (shp_plain b)
                dsimp only
                rw [eq1]
                by_cases he : q.1 = b.shp
                · exact .inr ⟨by simp [he], g1 (by simp [he]) S6 (y.trans y6)⟩
                · exact .inl ⟨by simp [he], g2 (by simp [he]) S6 (y.trans y6)⟩
              · have e5 : (a.looks.filter fun q => decide (q.1 = b.shp)).map (fun q => D.int q.2) = (stp rs p).map D.int := by rw [estp, List.map_map]; rfl
                rw [e5]
                have y05 : Le S' (S5 ++ [O.lst ((stp rs p).map D.int)]) := y4.trans (y5.trans (Le.app _ _))
                generalize hS6 : S5 ++ [O.lst ((stp rs p).map D.int)] = S6 at y05
                have k6 : S6[S5.length]? = some (.lst ((stp rs p).map D.int)) := by rw [← hS6]; exact get_new
                have pl6 : plainsD 100 ((stp rs p).map D.int) = true := plains_of fun d hd => by
                  obtain ⟨z, _, rfl⟩ := List.mem_map.mp hd
                  simp [plainD]
                have eqe : eqD (S6 ++ [O.lst []]) (.loc S5.length) (.loc S6.length) = some (decide ((stp rs p).map D.int = [])) := eqD_lsts (get_app k6) get_new pl6 (by simp [plainsD])
                rw [eqe]
                by_cases hz : stp rs p = []
                · refine .inr ⟨by simp [hz], ?_⟩
                  have h5 := h _ (y2.trans (r4.trans (y05.trans (Le.app S6 [O.lst []]))))
                  have : resB ((xs.zip (nexts xs)).map (stp rs)) = false := by
                    have : ((xs.zip (nexts xs)).map (stp rs)).all (fun l => !l.isEmpty) = false := by
                      rw [List.all_eq_false]
                      exact ⟨_, List.mem_map_of_mem hpm, by simp [hz]⟩
                    rw [resB, this, Bool.false_and]
                  rw [eB, this] at h5
                  exact h5
                · have r2' := get_app (T := [O.lst []]) (y05 _ _ r2)
                  refine .inl ⟨by simp [hz], tyD_loc r2', ?_⟩
                  refine ⟨_, _, stp rs p, rfl, lstD_loc (get_app k6), intsD_map _, List.length_pos_iff.mpr hz, fun m' hm hmax => ?_⟩
                  have em := mx01_of (fun x hx => stp01 hx) hm hmax
                  subst em
                  dsimp only
                  rw [dAppend_loc r2']
                  have e6 : ((us.map (stp rs)).map mx01).map D.int ++ [D.int (mx01 (stp rs p))] = (((us ++ [p]).map (stp rs)).map mx01).map D.int := by simp
                  rw [e6]
                  refine ⟨by simp; omega, hN _ _ ⟨us ++ [p], vs, _, _, _, _, _, by rw [r0]; simp, rfl, rfl, get_set r2', fun L hL => ?_, fun j o e => ?_⟩⟩
                  · rw [List.map_append] at hL
                    rcases List.mem_append.mp hL with hL | hL
                    · exact r3 L hL
                    · have : L = stp rs p := by simpa using hL
                      rw [this]; exact hz
                  · have := lt_of_get e
                    rw [List.getElem?_set_ne (by omega)]
                    exact get_app (y05 _ _ (r4 _ _ e))
          · refine .inr ⟨by have := mt zl.mp hnd; omega, ?_⟩
            have : ringB rs xs = false := by simp [ringB, hnd]
            have hR := h S3 y2
            rwa [this] at hR
    · refine .inl ⟨?_, ?_⟩
      · obtain ⟨x, hx1, hx2⟩ : ∃ x ∈ xs, numB rs.length x = false := by simpa using hall
        exact List.mem_map.mpr ⟨x, hx1, hx2⟩
      · have : ringB rs xs = false := by simp only [ringB, Bool.not_eq_true] at hall ⊢; rw [hall]; simp
        have hR := h S1 y1
        rwa [this] at hR

noncomputable def barA (rs : List Ru) : D → Bool
  | .tup [.str w, x] => if w = "ring" then ringA rs x else false
  | .tup [.str w, x, y] => if w = "two" then twoA rs x y else false
  | _ => false
def Hd (d : D) : Prop := ∀ x xs, d = .tup (x :: xs) → plainD 100 x = true
theorem ring_two : ¬ Str.ofString "ring" = Str.ofString "two" ∧ ¬ Str.ofString "two" = Str.ofString "ring" := by decide +kernel
theorem eq_lit {S : Sto} {x : D} {w : Str} (h : plainD 100 x = true) : eqD S x (.str w) = some (decide (x = .str w)) := eqD_plain h (by simp [plainD])
def isStr : D → Bool
  | .str _ => true
  | _ => false
theorem kit_str {S : Sto} {x : D} (h : KnD S x) : ∃ t, typD S x = some t ∧ kitB t "str" = some (isStr x) := by
  cases h with
  | lst e => exact ⟨_, typD_lst e, by simp [isStr]⟩
  | dct e => exact ⟨_, typD_dct e, by simp [isStr]⟩
  | _ => exact ⟨_, rfl, by simp [isStr]⟩
def S_is_bar : DSp := fun ds S R => ∃ (rl : Nat) (rs : List Ru) (d : D), ds = [.loc rl, d] ∧ S[rl]? = some (.lst (rs.map Ru.d)) ∧ (∀ r ∈ rs, okRu r) ∧ KnD S d ∧ Hd d ∧ Pure (.bl (barA rs d)) S R
theorem sem_is_bar : ∀ ds S R, S_is_bar ds S R → ds.length = 2 ∧ w_is_bar S_is_two S_is_ring (endsD R) (startD 2 ds) S := by
  rintro ds S R ⟨rl, rs, d, rfl, hr, ho, hd, hh, h⟩
  refine ⟨rfl, ?_⟩
  obtain ⟨ne1, ne2⟩ := ring_two
  have h0 := h.here
  have non : (∀ xs, d ≠ .tup xs) → barA rs d = false := fun hn => by
    cases d with
    | tup xs => exact absurd rfl (hn xs)
    | _ => rfl
  cases hd with
  | tup hl hk =>
    rename_i ds
    clear non
    match ds, hl, hk, hh, h, h0 with
    | [], _, _, _, h, h0 => simpa [w_is_bar, startD, barA] using h0
    | [x], _, _, _, h, h0 =>
      have : barA rs (.tup [x]) = false := by cases x <;> rfl
      rw [this] at h0
      simpa [w_is_bar, startD] using h0
    | [x, y], _, hk, hh, h, h0 =>
      have px := hh x [y] rfl
      simp [w_is_bar, startD, eq_lit px]
      by_cases c2 : x = .str (Str.ofString "ring")
      · subst c2
        have hb : barA rs (.tup [.str (Str.ofString "ring"), y]) = ringA rs y := by simp [barA]
        rw [hb] at h
        exact ⟨.inl (by simpa using ne1), .inr ⟨rfl, rl, rs, y, rfl, hr, ho, hk y (by simp), h⟩⟩
      · have hb : barA rs (.tup [x, y]) = false := by
          cases x with
          | str w =>
            have : ¬ w = Str.ofString "ring" := fun e => c2 (by rw [e])
            simp [barA, this]
          | _ => rfl
        rw [hb] at h0
        exact ⟨(Classical.em _).symm, .inl ⟨c2, h0⟩⟩
    | [x, y, z], _, hk, hh, h, h0 =>
      have px := hh x [y, z] rfl
      simp [w_is_bar, startD, eq_lit px]
      by_cases c2 : x = .str (Str.ofString "two")
      · subst c2
        have hb : barA rs (.tup [.str (Str.ofString "two"), y, z]) = twoA rs y z := by simp [barA]
        rw [hb] at h
        exact .inr ⟨rfl, rl, rs, y, z, rfl, hr, hk y (by simp), hk z (by simp), h⟩
      · have hb : barA rs (.tup [x, y, z]) = false := by
          cases x with
          | str w =>
            have : ¬ w = Str.ofString "two" := fun e => c2 (by rw [e])
            simp [barA, this]
          | _ => rfl
        rw [hb] at h0
        refine .inl ⟨c2, ?_⟩
        by_cases c3 : x = .str (Str.ofString "ring")
        · exact .inr ⟨c3, h0⟩
        · exact .inl ⟨c3, h0⟩
    | x :: y :: z :: u :: r, _, _, hh, h, h0 =>
      have px := hh x _ rfl
      have hb : barA rs (.tup (x :: y :: z :: u :: r)) = false := by cases x <;> rfl
      rw [hb] at h0
      simp [w_is_bar, startD, eq_lit px]
      refine .inl ⟨by omega, ?_⟩
      have fin : (¬ x = .str (Str.ofString "ring") ∧ R (.bl false) S) ∨ (x = .str (Str.ofString "ring") ∧ (¬ (r.length : Int) + 1 + 1 + 1 + 1 = 2 ∧ R (.bl false) S ∨ (r.length : Int) + 1 + 1 + 1 + 1 = 2 ∧ S_is_ring [D.loc rl, y] S R)) := by
        by_cases c : x = .str (Str.ofString "ring")
        · exact .inr ⟨c, .inl ⟨by omega, h0⟩⟩
        · exact .inl ⟨c, h0⟩
      by_cases c : x = .str (Str.ofString "two")
      · exact .inr ⟨c, .inl ⟨by omega, fin⟩⟩
      · exact .inl ⟨c, fin⟩
  | lst e => rw [non (by simp)] at h0; simpa [w_is_bar, startD, typD_lst e] using h0
  | dct e => rw [non (by simp)] at h0; simpa [w_is_bar, startD, typD_dct e] using h0
  | non => rw [non (by simp)] at h0; simpa [w_is_bar, startD] using h0
  | bl => rw [non (by simp)] at h0; simpa [w_is_bar, startD] using h0
  | int => rw [non (by simp)] at h0; simpa [w_is_bar, startD] using h0
  | str _ => rw [non (by simp)] at h0; simpa [w_is_bar, startD] using h0
def S_law_is_bar : DSp := fun ds S R => ∃ (rl : Nat) (rs : List Ru) (d : D), ds = [.loc rl, d] ∧ S[rl]? = some (.lst (rs.map Ru.d)) ∧ (∀ r ∈ rs, okRu r) ∧ KnD S d ∧ Hd d ∧ Pure (.bl (barA rs d)) S R
theorem sem_law_is_bar : ∀ ds S R, S_law_is_bar ds S R → ds.length = 2 ∧ w_law_is_bar S_law_number S_law_is_two S_law_is_ring (endsD R) (startD 2 ds) S := by
  rintro ds S R ⟨rl, rs, d, rfl, hr, ho, hd, hh, h⟩
  refine ⟨rfl, ?_⟩
  obtain ⟨ne1, ne2⟩ := ring_two
  have hz2 : 2 ≤ sizeLine := by have := sizeLine_eq; omega
  have h0 := h.here
  have hnin : ∀ (k : Int) (S : Sto) (R : DQ), R (.bl (!decide (k = 2 ∨ k = 3))) S → dNotIn (.int k) (.tup [.int 2, .int 3]) S R := fun k S R hR => by
    refine dNotIn_plain (by simp [seqD]; rfl) (by simp [plainD]) (by simp [plainsD, plainD]) ?_
    simpa using hR
  have non : (∀ xs, d ≠ .tup xs) → barA rs d = false := fun hn => by
    cases d with
    | tup xs => exact absurd rfl (hn xs)
    | _ => rfl
  cases hd with
  | tup hl hk =>
    rename_i ds
    clear non
    match ds, hl, hk, hh, h, h0 with
    | [], _, _, _, h, h0 =>
      simp [w_law_is_bar, startD, hz2]
      refine hnin 0 _ _ ?_
      simpa [barA] using h0
    | [x], _, _, _, h, h0 =>
      have : barA rs (.tup [x]) = false := by cases x <;> rfl
      rw [this] at h0
      simp [w_law_is_bar, startD, hz2]
      refine hnin 1 _ _ ?_
      simpa using h0
    | [x, y], _, hk, hh, h, h0 =>
      have px := hh x [y] rfl
      simp [w_law_is_bar, startD, hz2, eq_lit px]
      refine hnin 2 _ _ ?_
      simp
      obtain ⟨t, t1, t2⟩ := kit_str (hk x (by simp))
      refine ⟨t, t1, ?_⟩
      cases hs : isStr x with
      | false =>
        have hb : barA rs (.tup [x, y]) = false := by
          cases x with
          | str w => simp [isStr] at hs
          | _ => rfl
        rw [hb] at h0
        exact .inl ⟨by rw [t2, hs], h0⟩
      | true =>
        refine .inr ⟨by rw [t2, hs], (Classical.em _).symm, ?_⟩
        by_cases c : x = .str (Str.ofString "ring")
        · subst c
          have hb : barA rs (.tup [.str (Str.ofString "ring"), y]) = ringA rs y := by simp [barA]
          rw [hb] at h
          exact .inr ⟨rfl, rl, rs, y, rfl, hr, ho, hk y (by simp), h⟩
        · have hb : barA rs (.tup [x, y]) = false := by
            cases x with
            | str w =>
              have : ¬ w = Str.ofString "ring" := fun e => c (by rw [e])
              simp [barA, this]
            | _ => rfl
          rw [hb] at h0
          exact .inl ⟨c, h0⟩
    | [x, y, z], _, hk, hh, h, h0 =>
      have px := hh x [y, z] rfl
      simp [w_law_is_bar, startD, hz2, eq_lit px]
      refine hnin 3 _ _ ?_
      simp
      obtain ⟨t, t1, t2⟩ := kit_str (hk x (by simp))
      refine ⟨t, t1, ?_⟩
      cases hs : isStr x with
      | false =>
        have hb : barA rs (.tup [x, y, z]) = false := by
          cases x with
          | str w => simp [isStr] at hs
          | _ => rfl
        rw [hb] at h0
        exact .inl ⟨by rw [t2, hs], h0⟩
      | true =>
        refine .inr ⟨by rw [t2, hs], ?_⟩
        by_cases c : x = .str (Str.ofString "two")
        · subst c
          have hb : barA rs (.tup [.str (Str.ofString "two"), y, z]) = twoA rs y z := by simp [barA]
          rw [hb] at h h0
          refine .inr ⟨rfl, ?_⟩
          have no : R (.bl false) S → ((¬ D.str (Str.ofString "two") = D.str (Str.ofString "ring") ∧ R (.bl false) S) ∨ (D.str (Str.ofString "two") = D.str (Str.ofString "ring") ∧ R (.bl false) S)) := fun q => .inl ⟨fun e => ne2 (by injection e), q⟩
          refine ⟨rl, _, y, rfl, hr, hk y (by simp), ?_⟩
          rw [map_len]
          rcases two_forms rs rs.length y z with ⟨i, j, rfl, rfl⟩ | ⟨hn, ht⟩
          · simp only [numA, twoA] at h0 h ⊢
            cases hi : numB rs.length i with
            | false => exact .inl ⟨by simp, no (by simpa [twoB, hi] using h0)⟩
            | true =>
              refine .inr ⟨by simp, rl, _, _, rfl, hr, .int, ?_⟩
              rw [map_len]
              simp only [numA]
              cases hj : numB rs.length j with
              | false => exact .inl ⟨by simp, no (by simpa [twoB, hi, hj] using h0)⟩
              | true =>
                refine .inr ⟨by simp, ?_⟩
                simp
                by_cases hij : i < j
                · obtain ⟨a, a1, a2, _⟩ := numB_at hi
                  obtain ⟨b, b1, b2, _⟩ := numB_at hj
                  have e0 : twoB rs i j = two2 a b := by simp [twoB, hi, hj, hij, a1, b1]
                  rw [e0] at h
                  exact .inr ⟨hij, rl, rs, i, j, a, b, rfl, hr, a2, b2, h⟩
                · refine .inl ⟨by omega, ?_⟩
                  simpa [twoB, hij] using h0
          · rw [ht] at h0
            cases hi : numA rs.length y with
            | false => exact .inl ⟨by simp, no h0⟩
            | true =>
              refine .inr ⟨by simp, rl, _, _, rfl, hr, hk z (by simp), ?_⟩
              rw [map_len]
              cases hj : numA rs.length z with
              | false => exact .inl ⟨by simp, no h0⟩
              | true => rcases hn with q | q
                        · rw [hi] at q; cases q
                        · rw [hj] at q; cases q
        · have hb : barA rs (.tup [x, y, z]) = false := by
            cases x with
            | str w =>
              have : ¬ w = Str.ofString "two" := fun e => c (by rw [e])
              simp [barA, this]
            | _ => rfl
          rw [hb] at h0
          refine .inl ⟨c, ?_⟩
          by_cases c3 : x = .str (Str.ofString "ring")
          · exact .inr ⟨c3, h0⟩
          · exact .inl ⟨c3, h0⟩
    | x :: y :: z :: u :: r, _, _, hh, h, h0 =>
      have px := hh x _ rfl
      have hb : barA rs (.tup (x :: y :: z :: u :: r)) = false := by cases x <;> rfl
      rw [hb] at h0
      simp [w_law_is_bar, startD, hz2]
      refine hnin _ _ _ ?_
      refine .inr ⟨?_, h0⟩
      have : ¬ ((r.length : Int) + 1 + 1 + 1 + 1 = 2 ∨ (r.length : Int) + 1 + 1 + 1 + 1 = 3) := by omega
      simp only [this, decide_false, Bool.not_false]
  | lst e => rw [non (by simp)] at h0; simpa [w_law_is_bar, startD, typD_lst e] using h0
  | dct e => rw [non (by simp)] at h0; simpa [w_law_is_bar, startD, typD_dct e] using h0
  | non => rw [non (by simp)] at h0; simpa [w_law_is_bar, startD] using h0
  | bl => rw [non (by simp)] at h0; simpa [w_law_is_bar, startD] using h0
  | int => rw [non (by simp)] at h0; simpa [w_law_is_bar, startD] using h0
  | str _ => rw [non (by simp)] at h0; simpa [w_law_is_bar, startD] using h0

theorem enum_ru {rs : List Ru} {d : D} (h : d ∈ enumD (rs.map Ru.d)) : ∃ (j : Nat) (r : Ru), rs[j]? = some r ∧ d = .tup [.int j, r.d] := by
  obtain ⟨i, hi⟩ := List.mem_iff_getElem?.mp h
  obtain ⟨x, hx, rfl⟩ := enum_get hi
  rw [List.getElem?_map] at hx
  cases e : rs[i]? with
  | none => rw [e] at hx; cases hx
  | some r => rw [e] at hx; cases hx; exact ⟨i, r, e, rfl⟩
theorem at_ru {rs : List Ru} {i : Int} {n : Nat} (h0 : 0 ≤ i) (h1 : i < n) (hn : n < rs.length) : ∃ r, r ∈ rs ∧ atI (rs.map Ru.d) i = some r.d := by
  have hl : i.toNat < rs.length := by omega
  refine ⟨rs[i.toNat], List.getElem_mem hl, ?_⟩
  rw [atI_nn h0]
  simp [hl]
def Sm (x : Int) : Prop := 0 ≤ x ∧ x < 20
def TwoR : D → Prop := fun d => d = .non ∨ ∃ i j : Int, d = .tup [.int i, .int j] ∧ Sm i ∧ Sm j
def S_two_of_one_shape : DSp := fun ds S R => ∃ (rl : Nat) (rs : List Ru), ds = [.loc rl] ∧ S[rl]? = some (.lst (rs.map Ru.d)) ∧ rs.length ≤ 20 ∧ ∀ d S', TwoR d → Le S S' → R d S'
theorem sem_two_of_one_shape : ∀ ds S R, S_two_of_one_shape ds S R → ds.length = 1 ∧ w_two_of_one_shape S_rule_shape (endsD R) (startD 5 ds) S := by
  rintro ds S R ⟨rl, rs, rfl, hr, hl, h⟩
  refine ⟨rfl, ?_⟩
  have hsl : sizeLine = 16777216 := sizeLine_eq
  have hz2 : 2 ≤ sizeLine := by omega
  simp [w_two_of_one_shape, startD]
  refine ⟨_, _, lstD_loc hr, ?_⟩
  refine for_keep (fun τ S' => ∃ a b c d, τ = [some (.loc rl), a, b, c, d] ∧ Le S S') ⟨_, _, _, _, rfl, Le.refl S⟩ (fun τ S' hI => ?_) ?_ ?_
  · obtain ⟨_, _, _, _, _, y⟩ := hI
    exact y _ _ hr
  · rintro τ S' ⟨a, b, c, d, rfl, y⟩
    simpa using h .non S' (.inl rfl) y
  · rintro x τ S1 N hx ⟨a, b, c, d, rfl, y⟩ hN
    obtain ⟨j, r, hj, rfl⟩ := enum_ru hx
    have hjl : j < rs.length := (List.getElem?_eq_some_iff.mp hj).1
    simp
    refine ⟨by omega, ?_⟩
    refine for_keep (fun τ S' => ∃ c d, τ = [some (.loc rl), some (.int j), some r.d, c, d] ∧ Le S S') ⟨_, _, rfl, y⟩ (fun _ _ _ => trivial) ?_ ?_
    · rintro τ S' ⟨c, d, rfl, y⟩
      exact hN _ _ ⟨_, _, _, _, rfl, y⟩
    · rintro x τ S1 N hx ⟨c, d, rfl, y⟩ hN
      obtain ⟨i, rfl, hi0, hi1⟩ := rangeD_mem hx
      obtain ⟨r2, hr2, e2⟩ := at_ru (rs := rs) hi0 (by simpa using hi1) hjl
      have k1 := y _ _ hr
      have next : ∀ v S2, Le S S2 → N [some (.loc rl), some (.int j), some r.d, some (.int i), v] S2 := fun v S2 y2 => hN _ _ ⟨_, _, rfl, y2⟩
      have yes : ∀ v, dIx (.loc rl) (.int i) S1 fun d S1 => S_rule_shape [d] S1 fun d1 S2 => S_rule_shape [r.d] S2 fun d2 S3 => eqD S3 d1 d2 = some false ∧ N [some (.loc rl), some (.int j), some r.d, some (.int i), v] S3 ∨ eqD S3 d1 d2 = some true ∧ 2 ≤ sizeLine ∧ R (.tup [.int i, .int j]) S3 := by
        intro v
        rw [dIx_loc k1, e2]
        refine ⟨_, rfl, r2, rfl, fun S2 y2 => ⟨r, rfl, fun S3 y3 => ?_⟩⟩
        dsimp only
        rw [shp_eq]
        have y13 := y.trans (y2.trans y3)
        by_cases e : r2.shp = r.shp
        · exact .inr ⟨by simp [e], hz2, h _ _ (.inr ⟨_, _, rfl, ⟨hi0, by omega⟩, ⟨by omega, by omega⟩⟩) y13⟩
        · exact .inl ⟨by simp [e], next _ _ y13⟩
      simp
      rw [dIx_loc k1, e2]
      refine ⟨_, rfl, ?_⟩
      rw [ru_gr]
      simp only [gr_non]
      cases hg : r2.gr.isSome with
      | true => exact .inr ⟨rfl, .inr ⟨rfl, yes _⟩⟩
      | false =>
        refine .inl ⟨rfl, ?_⟩
        rw [ru_gr]
        simp only [gr_non]
        cases hg2 : r.gr.isSome with
        | true => exact .inr ⟨rfl, yes _⟩
        | false => exact .inl ⟨rfl, next _ _ y⟩

theorem shp8 (w : Str) (n : Nat) : plainD 8 (shpD w n) = true := by simp [shpD, plainD, plainsD]
theorem looks8 {r : Ru} {q : D × Int} (h : q ∈ r.looks) : plainD 8 q.1 = true := by
  unfold Ru.looks at h
  obtain ⟨p, _, e⟩ := List.mem_filterMap.mp h
  cases p with
  | ot _ _ => cases e
  | lk neg w ts =>
    cases e
    exact shp8 _ _
/-- the ways found so far -/
structure WayI (rl : Nat) (rs : List Ru) (b : D) (S : Sto) (kvs : List (D × D)) (S' : Sto) : Prop where
  le : Le S S'
  ways : ∃ ep, S'[S.length]? = some (.dct ep kvs)
  wait : S'[S.length + 1]? = some (.lst (kvs.map (·.1)))
  pl : plainK kvs
  nd : (kvs.map (·.1)).Nodup
  sub : ∀ p ∈ kvs, p.1 ∈ b :: rs.map Ru.shp
  val : ∀ p ∈ kvs, ∃ xs : List Int, p.2 = .tup (xs.map D.int) ∧ xs.length < kvs.length ∧ ∀ x ∈ xs, Sm x
theorem WayI.up {rl : Nat} {rs : List Ru} {b : D} {S S1 S2 : Sto} {kvs : List (D × D)} (w : WayI rl rs b S kvs S1) (y : Le S1 S2) : WayI rl rs b S kvs S2 :=
  ⟨w.le.trans y, let ⟨ep, e⟩ := w.ways; ⟨ep, y _ _ e⟩, y _ _ w.wait, w.pl, w.nd, w.sub, w.val⟩
theorem WayI.len {rl : Nat} {rs : List Ru} {b : D} {S S1 : Sto} {kvs : List (D × D)} (w : WayI rl rs b S kvs S1) : kvs.length ≤ rs.length + 1 := by
  have := List.Nodup.length_le_of_subset w.nd (fun z hz => by
    obtain ⟨p, hp, rfl⟩ := List.mem_map.mp hz
    exact w.sub p hp : kvs.map (·.1) ⊆ b :: rs.map Ru.shp)
  simpa using this
def WayR : D → Prop := fun d => d = .non ∨ ∃ xs : List Int, d = .tup (xs.map D.int) ∧ xs.length ≤ 30 ∧ ∀ x ∈ xs, Sm x
theorem WayI.add {rl : Nat} {rs : List Ru} {b : D} {S S1 : Sto} {kvs : List (D × D)} {own : D} {xs : List Int} {ep : Nat} (w : WayI rl rs b S kvs S1) (h1 : own ∉ kvs.map (·.1)) (h2 : own ∈ rs.map Ru.shp) (h3 : plainD 8 own = true) (h4 : xs.length < kvs.length + 1) (h5 : ∀ x ∈ xs, Sm x) :
    WayI rl rs b S (kvs ++ [(own, .tup (xs.map D.int))]) ((S1.set S.length (.dct ep (kvs ++ [(own, .tup (xs.map D.int))]))).set (S.length + 1) (.lst (kvs.map (·.1) ++ [own]))) := by
  obtain ⟨ep0, e0⟩ := w.ways
  have l0 := lt_of_get w.wait
  refine ⟨fun j o e => ?_, ⟨ep, ?_⟩, ?_, fun p hp => ?_, ?_, fun p hp => ?_, fun p hp => ?_⟩
  · have := lt_of_get e
    rw [List.getElem?_set_ne (by omega), List.getElem?_set_ne (by omega)]
    exact w.le _ _ e
  · rw [List.getElem?_set_ne (by omega), get_set e0]
  · rw [get_set (o := .lst (kvs.map (·.1))) (by rw [List.getElem?_set_ne (by omega)]; exact w.wait)]
    simp
  · rcases List.mem_append.mp hp with hp | hp
    · exact w.pl p hp
    · rw [List.mem_singleton.mp hp]; exact h3
  · rw [List.map_append, List.nodup_append]
    refine ⟨w.nd, by simp, fun a ha c hc => ?_⟩
    simp at hc
    rw [hc]
    intro e
    rw [e] at ha
    exact h1 ha
  · rcases List.mem_append.mp hp with hp | hp
    · exact w.sub p hp
    · rw [List.mem_singleton.mp hp]; exact List.mem_cons_of_mem _ h2
  · rcases List.mem_append.mp hp with hp | hp
    · obtain ⟨ys, e1, e2, e3⟩ := w.val p hp
      exact ⟨ys, e1, by simp; omega, e3⟩
    · rw [List.mem_singleton.mp hp]
      exact ⟨xs, rfl, by simpa using h4, h5⟩
theorem getP_mem {kvs : List (D × D)} {p : D × D} (h : p ∈ kvs) : ∃ q ∈ kvs, getP kvs p.1 = some q.2 := by
  unfold getP
  cases e : kvs.find? fun q => decide (q.1 = p.1) with
  | none => exact absurd (List.find?_eq_none.mp e p h) (by simp)
  | some q => exact ⟨q, List.mem_of_find?_eq_some e, rfl⟩
theorem getP_some {kvs : List (D × D)} {d v : D} (h : getP kvs d = some v) : ∃ q ∈ kvs, q.2 = v := by
  unfold getP at h
  obtain ⟨q, h1, h2⟩ := Option.map_eq_some_iff.mp h
  exact ⟨q, List.mem_of_find?_eq_some h1, h2⟩
theorem getP_no {kvs : List (D × D)} {d : D} (h : (getP kvs d).isSome = false) : d ∉ kvs.map (·.1) := fun hm => by
  obtain ⟨p, hp, rfl⟩ := List.mem_map.mp hm
  obtain ⟨q, _, e⟩ := getP_mem hp
  rw [e] at h
  cases h
def S_way_of_rules : DSp := fun ds S R => ∃ (rl : Nat) (rs : List Ru) (b g : D), ds = [.loc rl, b, g] ∧ S[rl]? = some (.lst (rs.map Ru.d)) ∧ rs.length ≤ 20 ∧ (∀ r ∈ rs, okRu r) ∧ plainD 8 b = true ∧ plainD 8 g = true ∧ ∀ d S', WayR d → Le S S' → R d S'
theorem sem_way_of_rules : ∀ ds S R, S_way_of_rules ds S R → ds.length = 3 ∧ w_way_of_rules S_rule_shape S_looked_at (endsD R) (startD 11 ds) S := by
  rintro ds S R ⟨rl, rs, b, g, rfl, hr, hl, ho, hb, hg, h⟩
  refine ⟨rfl, ?_⟩
  have hsl : sizeLine = 16777216 := sizeLine_eq
  have hz1 : 1 ≤ sizeLine := by omega
  have hz2 : 2 ≤ sizeLine := by omega
  obtain ⟨bk, hbk, _⟩ := keyD_plain hb
  simp [w_way_of_rules, startD]
  refine ⟨_, _, stoD_1 hbk, hz1, ?_⟩
  have start : WayI rl rs b S [(b, .tup [])] (S ++ [O.dct 1 [(b, D.tup [])], O.lst [b]]) := {
    le := Le.app _ _
    ways := ⟨1, by rw [get_at0]; rfl⟩
    wait := by rw [get_at]; rfl
    pl := fun p hp => by
      rw [List.mem_singleton.mp hp]
      exact hb
    nd := by simp
    sub := fun p hp => by
      rw [List.mem_singleton.mp hp]
      exact List.mem_cons_self
    val := fun p hp => by
      rw [List.mem_singleton.mp hp]
      exact ⟨[], rfl, by simp, by simp⟩ }
  refine while_run (rs.length + 2) (fun m τ S' => ∃ (kvs : List (D × D)) (at_ : Nat) (v6 v7 v8 : Option D), m + at_ = rs.length + 2 ∧ at_ ≤ kvs.length ∧ τ = [some (.loc rl), some b, some g, some (.loc S.length), some (.loc (S.length + 1)), some (.int at_), v6, v7, v8, none, none] ∧ WayI rl rs b S kvs S')
    ⟨_, 0, _, _, _, by omega, by simp, rfl, start⟩ ?_
  rintro m τ S0 N ⟨kvs, at_, v6, v7, v8, hm, hat, rfl, W⟩ hN
  have hkl := W.len
  simp
  rw [dLen_loc W.wait]
  simp
  by_cases hlt : at_ < kvs.length
  rotate_left
  · refine .inl ⟨by omega, ?_⟩
    obtain ⟨ep, k1⟩ := W.ways
    refine ⟨isDct_loc k1, ?_⟩
    rw [dGet1_P k1 W.pl hg]
    cases e : getP kvs g with
    | none => exact h _ _ (.inl rfl) W.le
    | some v =>
      obtain ⟨q, hq, rfl⟩ := getP_some e
      obtain ⟨xs, e1, e2, e3⟩ := W.val q hq
      exact h _ _ (.inr ⟨xs, e1, by omega, e3⟩) W.le
  · refine .inr ⟨hlt, _, _, lstD_loc (W.le _ _ hr), ?_⟩
    refine for_keep (fun τ S' => ∃ kvs v6 v7 v8, at_ < kvs.length ∧ τ = [some (.loc rl), some b, some g, some (.loc S.length), some (.loc (S.length + 1)), some (.int at_), v6, v7, v8, none, none] ∧ WayI rl rs b S kvs S')
      ⟨kvs, _, _, _, hlt, rfl, W⟩ (fun τ S' hI => ?_) ?_ ?_
    · obtain ⟨_, _, _, _, _, _, W⟩ := hI
      exact W.le _ _ hr
    · rintro τ S' ⟨kvs, v6, v7, v8, hlt, rfl, W⟩
      simp
      have := W.len
      exact hN (m - 1) _ _ (by omega) ⟨kvs, at_ + 1, v6, v7, v8, by omega, by omega, by simp, W⟩
    · clear hkl hat hlt W v6 v7 v8 kvs
      rintro x τ S1 N1 hx ⟨kvs, v6, v7, v8, hlt, rfl, W⟩ hN1
      obtain ⟨k, r, hk, rfl⟩ := enum_ru hx
      have hrm : r ∈ rs := List.mem_of_getElem? hk
      simp
      refine ⟨r, rfl, fun S2 y2 => ?_⟩
      replace W := W.up y2
      have hkl := W.len
      obtain ⟨ep, k1⟩ := W.ways
      dsimp only
      rw [dNotIn_P k1 W.pl (show plainD 8 r.shp = true from shp8 _ _)]
      cases e : (getP kvs (Ru.shp r)).isSome with
      | true => exact .inl ⟨rfl, hN1 _ _ ⟨kvs, _, _, _, hlt, rfl, W⟩⟩
      | false =>
        refine .inr ⟨rfl, ?_⟩
        have ea : atI (kvs.map (·.1)) (at_ : Int) = some kvs[at_].1 := by
          rw [atI_nn (by omega)]
          simp [hlt]
        rw [dIx_loc W.wait, ea]
        refine ⟨_, rfl, r, rfl, ho r hrm, fun lk S3 k3 y3 => ?_⟩
        replace W := W.up y3
        refine ⟨_, _, itemsD_loc k3, ?_⟩
        have hll := looks_len r (ho r hrm)
        refine lc_over (as := r.looks) lkD (fun q => q.1) (Le S3) (Le.refl S3) (fun S4 y => y _ _ k3) (by omega) (fun q S4 N2 hq y g1 => ?_) fun S4 y4 => ?_
        · simp [wipeD, lkD]
          exact g1 S4 y
        · replace W := W.up (y4.trans (Le.app _ [O.lst (r.looks.map fun q => q.1)]))
          have kn : (S4 ++ [O.lst (r.looks.map fun q => q.1)])[S4.length]? = some (.lst (r.looks.map fun q => q.1)) := get_new
          generalize S4 ++ [O.lst (r.looks.map fun q => q.1)] = S5 at W kn
          refine dIn_plain (xs := r.looks.map fun q => q.1) (by simp [seqD, kn]) (plain_mono _ (by decide) (W.pl _ (List.getElem_mem hlt))) (plains_of fun d hd => ?_) ?_
          · obtain ⟨q, hq, rfl⟩ := List.mem_map.mp hd
            exact looks_plain hq
          · by_cases hin : kvs[at_].1 ∈ r.looks.map fun q => q.1
            · refine .inr ⟨by simp [hin], ?_⟩
              obtain ⟨ep5, k5⟩ := W.ways
              rw [dIx_loc W.wait, ea]
              refine ⟨_, rfl, ?_⟩
              rw [dIx_P k5 W.pl (W.pl _ (List.getElem_mem hlt))]
              obtain ⟨q, hq, eq⟩ := getP_mem (List.getElem_mem hlt)
              refine ⟨_, eq, hz1, ?_⟩
              obtain ⟨xs, e1, e2, e3⟩ := W.val q hq
              rw [e1]
              simp
              refine ⟨by omega, ?_⟩
              rw [dSet_P k5 W.pl (show plainD 8 r.shp = true from shp8 _ _)]
              have en : getP kvs r.shp = none := by
                cases h9 : getP kvs r.shp with
                | none => rfl
                | some v => rw [h9] at e; cases e
              have ex : xs.map D.int ++ [D.int k] = (xs ++ [(k : Int)]).map D.int := by simp
              have ep : putP kvs r.shp (.tup ((xs ++ [(k : Int)]).map D.int)) = kvs ++ [(r.shp, .tup ((xs ++ [(k : Int)]).map D.int))] := by simp [putP, en]
              rw [ex, ep]
              have kw : (S5.set S.length (.dct (epP ep5 kvs r.shp) (kvs ++ [(r.shp, .tup ((xs ++ [(k : Int)]).map D.int))])))[S.length + 1]? = some (.lst (kvs.map (·.1))) := by
                rw [List.getElem?_set_ne (by omega)]
                exact W.wait
              refine ⟨by omega, tyD_loc kw, ?_⟩
              rw [dAppend_loc kw]
              refine ⟨by simp; omega, hN1 _ _ ⟨kvs ++ [(r.shp, .tup ((xs ++ [(k : Int)]).map D.int))], _, _, _, by simp; omega, rfl, ?_⟩⟩
              exact W.add (getP_no e) (List.mem_map.mpr ⟨r, hrm, rfl⟩) (shp8 _ _) (by simp; omega) fun x hx => by
                rcases List.mem_append.mp hx with hx | hx
                · exact e3 x hx
                · rw [List.mem_singleton.mp hx]
                  have := (List.getElem?_eq_some_iff.mp hk).1
                  exact ⟨by omega, by omega⟩
            · exact .inl ⟨by simp [hin], hN1 _ _ ⟨kvs, _, _, _, hlt, rfl, W⟩⟩

def RingR : D → Prop := fun d => d = .non ∨ ∃ (x : Int) (xs : List Int), d = .tup ((x :: xs).map D.int) ∧ xs.length ≤ 30 ∧ ∀ z ∈ x :: xs, Sm z
def S_ring_of_rules : DSp := fun ds S R => ∃ (rl : Nat) (rs : List Ru), ds = [.loc rl] ∧ S[rl]? = some (.lst (rs.map Ru.d)) ∧ rs.length ≤ 20 ∧ (∀ r ∈ rs, okRu r) ∧ ∀ d S', RingR d → Le S S' → R d S'
theorem sem_ring_of_rules : ∀ ds S R, S_ring_of_rules ds S R → ds.length = 1 ∧ w_ring_of_rules S_looked_at S_way_of_rules S_rule_shape (endsD R) (startD 6 ds) S := by
  rintro ds S R ⟨rl, rs, rfl, hr, hl, ho, h⟩
  refine ⟨rfl, ?_⟩
  have hsl : sizeLine = 16777216 := sizeLine_eq
  have hz1 : 1 ≤ sizeLine := by omega
  simp [w_ring_of_rules, startD]
  refine ⟨_, _, lstD_loc hr, ?_⟩
  refine for_keep (fun τ S' => ∃ a b c d e, τ = [some (.loc rl), a, b, c, d, e] ∧ Le S S') ⟨_, _, _, _, _, rfl, Le.refl S⟩ (fun τ S' hI => ?_) ?_ ?_
  · obtain ⟨_, _, _, _, _, _, y⟩ := hI
    exact y _ _ hr
  · rintro τ S' ⟨a, b, c, d, e, rfl, y⟩
    simpa using h .non S' (.inl rfl) y
  · rintro x τ S1 N hx ⟨a, b, c, d, e, rfl, y⟩ hN
    obtain ⟨j, r, hj, rfl⟩ := enum_ru hx
    have hrm : r ∈ rs := List.mem_of_getElem? hj
    simp
    refine ⟨r, rfl, ho r hrm, fun lk S2 k2 y2 => ⟨_, _, itemsD_loc k2, ?_⟩⟩
    have y02 := y.trans y2
    refine for_keep (fun τ S' => ∃ c d e, τ = [some (.loc rl), some (.int j), some r.d, c, d, e] ∧ Le S2 S') ⟨_, _, _, rfl, Le.refl _⟩ (fun τ S' hI => ?_) ?_ ?_
    · obtain ⟨_, _, _, _, y⟩ := hI
      exact y _ _ k2
    · rintro τ S' ⟨c, d, e, rfl, y⟩
      exact hN _ _ ⟨_, _, _, _, _, rfl, y02.trans y⟩
    · rintro x τ S3 N hx ⟨c, d, e, rfl, y⟩ hN
      obtain ⟨q, hq, rfl⟩ := List.mem_map.mp hx
      simp [lkD]
      by_cases h0 : 0 < q.2
      · refine .inr ⟨h0, r, rfl, fun S4 y4 => ?_⟩
        have y04 := y02.trans (y.trans y4)
        refine ⟨rl, rs, _, _, rfl, y04 _ _ hr, hl, ho, shp8 _ _, looks8 hq, fun d S5 hd y5 => ?_⟩
        have y05 := y04.trans y5
        rcases hd with rfl | ⟨xs, rfl, hx, hxs⟩
        · simp
          exact hN _ _ ⟨_, _, _, rfl, y.trans (y4.trans y5)⟩
        · simp [hz1]
          refine ⟨by omega, ?_⟩
          refine h _ _ (.inr ⟨j, xs, rfl, hx, fun z hz => ?_⟩) y05
          rcases List.mem_cons.mp hz with e | hz
          · rw [e]
            have := (List.getElem?_eq_some_iff.mp hj).1
            exact ⟨by omega, by omega⟩
          · exact hxs z hz
      · exact .inl ⟨by omega, hN _ _ ⟨_, _, _, rfl, y⟩⟩
/-- what bar tells -/
def BarR : D → Prop := fun d => d = .non ∨ (∃ i j : Int, d = .tup [.str "two", .int i, .int j] ∧ Sm i ∧ Sm j) ∨ ∃ (x : Int) (xs : List Int), d = .tup [.str "ring", .tup ((x :: xs).map D.int)] ∧ xs.length ≤ 30 ∧ ∀ z ∈ x :: xs, Sm z
def S_bar : DSp := fun ds S R => ∃ (rl : Nat) (rs : List Ru), ds = [.loc rl] ∧ S[rl]? = some (.lst (rs.map Ru.d)) ∧ rs.length ≤ 20 ∧ (∀ r ∈ rs, okRu r) ∧ ∀ d S', BarR d → Le S S' → R d S'
theorem sem_bar : ∀ ds S R, S_bar ds S R → ds.length = 1 ∧ w_bar S_two_of_one_shape S_ring_of_rules (endsD R) (startD 3 ds) S := by
  rintro ds S R ⟨rl, rs, rfl, hr, hl, ho, h⟩
  refine ⟨rfl, ?_⟩
  have hsl : sizeLine = 16777216 := sizeLine_eq
  have hz1 : 1 ≤ sizeLine := by omega
  have hz2 : 2 ≤ sizeLine := by omega
  have hz3 : 3 ≤ sizeLine := by omega
  simp [w_bar, startD]
  refine ⟨rl, rs, rfl, hr, hl, fun d S1 hd y1 => ?_⟩
  rcases hd with rfl | ⟨i, j, rfl, hi, hj⟩
  · simp
    refine ⟨rl, rs, rfl, y1 _ _ hr, hl, ho, fun d S2 hd y2 => ?_⟩
    rcases hd with rfl | ⟨x, xs, rfl, hx, hxs⟩
    · simp
      exact h _ _ (.inl rfl) (y1.trans y2)
    · simp [hz2]
      exact h _ _ (.inr (.inr ⟨x, xs, rfl, hx, hxs⟩)) (y1.trans y2)
  · simp [hz1, hz3]
    exact h _ _ (.inr (.inl ⟨i, j, rfl, hi, hj⟩)) y1

theorem Gr.setN {l j : Nat} {S S' : Sto} {o : O} (g : Gr l S S') (h1 : S.length ≤ j) (h2 : l ≠ j) : Gr l S (S'.set j o) := by
  refine ⟨?_, ?_, fun i o hj e => ?_⟩
  · obtain ⟨p, q, e, t⟩ := g.at_
    exact ⟨p, q, by rw [List.getElem?_set_ne (by omega)]; exact e, t⟩
  · have := g.x.1
    simpa using this
  · have := lt_of_get e
    rw [List.getElem?_set_ne (by omega)]
    exact g.get e hj
def w_lb2 (sp : DSp) : WS := (wSeq (wAsg (wOp dIx (wLst (wCons (wC (.str "is")) (wCons (wC (.str "is")) (wCons (wC (.str "not")) wNil)))) (wCall sp (wCons (wVar 0) (wCons (wC (.int 3)) wNil)))) (wgName 8))
  (wSeq (wAsg (wTup (wCons (wTup (wCons (wVar 8) (wCons (wOp dAdd (wTup (wCons (wOp dIx (wVar 7) (wC (.int 0))) wNil)) (wOp dMulA (wTup (wCons (wC (.int 1)) wNil)) (wOp dIx (wVar 7) (wC (.int 1))))) wNil))) wNil)) (wgName 9))
  (wDrop (wMt "list" dInsert (wVar 6) (wCons (wCall sp (wCons (wVar 0) (wCons (wOp dAdd (wCB dLen (wCons (wVar 6) wNil)) (wC (.int 1))) wNil))) (wCons (wTup (wCons (wOp dAdd (wTup (wCons (wOp dIx (wOp dIx (wVar 4) (wVar 3)) (wC (.int 0))) wNil)) (wOp dMulA (wTup (wCons (wC (.int 2)) wNil)) (wOp dIx (wOp dIx (wVar 4) (wVar 3)) (wC (.int 1))))) (wCons (wC .non) (wCons (wVar 9) wNil)))) wNil))))))
def w_lbody (sp : DSp) : WS := (wSeq (wAsg (wIf (wAnd (wTest (wOp dEq (wVar 3) (wC (.int 0)))) (wTruth (wVar 5))) (wOp dIx (wVar 4) (wOp dSub (wVar 2) (wC (.int 1)))) (wOp dIx (wVar 4) (wOp dSub (wVar 3) (wC (.int 1))))) (wgName 7)) (w_lb2 sp))
theorem w_law_long_eq (sp : DSp) : w_law_long sp =
  (wSeq (wAsg (wOp dAdd (wC (.int 7)) (wCall sp (wCons (wVar 0) (wCons (wC (.int 6)) wNil)))) (wgName 2))
  (wSeq (wAsg (wLc (wiRange1 (wCons (wOp dAdd (wVar 2) (wC (.int 1))) wNil)) (wgName 3) wYes (wTup (wCons (wOp dIx (wVar 1) (wOp dMod (wVar 3) (wC (.int 6)))) (wCons (wOp dDiv (wVar 3) (wC (.int 6))) wNil))) [3]) (wgName 4))
  (wSeq (wAsg (wOp dEq (wCall sp (wCons (wVar 0) (wCons (wC (.int 2)) wNil))) (wC (.int 0))) (wgName 5))
  (wSeq (wAsg (wLst wNil) (wgName 6))
  (wSeq (wFor (wiRange1 (wCons (wVar 2) wNil)) (wgName 3)
    (w_lbody sp))
  (wRet (wVar 6))))))) := rfl
theorem rep_flat (x : D) : ∀ n : Nat, (List.replicate n [x]).flatten = List.replicate n x
  | 0 => rfl
  | n + 1 => by rw [List.replicate_succ, List.flatten_cons, rep_flat x n, List.replicate_succ]; rfl
theorem made_rep (w : Str) (i : Int) (k : Nat) : (Th.made w (List.replicate k (.num i))).d = .tup ([.str w] ++ List.replicate k (.int i)) := by
  rw [Th.d, List.map_replicate, Th.d]
  rfl
theorem lb2_ok {R : DEnds} {n i l sh rl : Nat} {b : Bool} {v1 v8 v9 : Option D} {p : Str × Nat} {rs : List Ru} {ps : List (Str × Nat)} {S : Sto} (hl : LAt l S) (hsh : S[sh]? = some (.lst (ps.map shD))) (hi : i < ps.length) (hps : ∀ p ∈ ps, Wok p.1 ∧ p.2 ≤ 4) (hp : Wok p.1 ∧ p.2 ≤ 4)
    (hr : S[rl]? = some (.lst (rs.map Ru.d))) (hrl : rs.length ≤ 12) (ho : ∀ r ∈ rs, okRu r) (n1 : sh ≠ l) (n2 : rl ≠ l) (n3 : sh ≠ rl)
    (h : ∀ (rs' : List Ru) S' v8 v9, S'[rl]? = some (.lst (rs'.map Ru.d)) → rs'.length = rs.length + 1 → (∀ r ∈ rs', okRu r) → LAt l S' → S.length ≤ S'.length → (∀ j o, j ≠ l → j ≠ rl → S[j]? = some o → S'[j]? = some o) → R.nx [some (.loc l), v1, some (.int n), some (.int i), some (.loc sh), some (.bl b), some (.loc rl), some (shD p), v8, v9] S') :
    w_lb2 S_law_pick R [some (.loc l), v1, some (.int n), some (.int i), some (.loc sh), some (.bl b), some (.loc rl), some (shD p), v8, v9] S := by
  have hsl : sizeLine = 16777216 := sizeLine_eq
  have hz1 : 1 ≤ sizeLine := by omega
  have hz2 : 2 ≤ sizeLine := by omega
  have hz3 : 3 ≤ sizeLine := by omega
  have lS := lt_of_get hr
  simp [w_lb2, shD]
  refine ⟨hz3, l, 3, rfl, by decide, by decide, hl.le (Le.app _ _), fun n3' S3 a3 b3 g3 => ?_⟩
  have hne3 : S.length ≠ l := hl.ne (Nat.le_refl _)
  have e3 := g3.get (get_new (S := S)) hne3
  obtain ⟨y, hy, hm⟩ := atI_mem (m := n3') (xs := [D.str (Str.ofString "is"), D.str (Str.ofString "is"), D.str (Str.ofString "not")]) a3 (by simpa using b3)
  obtain ⟨neg, rfl⟩ : ∃ neg : Bool, y = .str (if neg then "not" else "is") := by
    simp only [List.mem_cons, List.not_mem_nil, or_false] at hm
    rcases hm with rfl | rfl | rfl
    · exact ⟨false, rfl⟩
    · exact ⟨false, rfl⟩
    · exact ⟨true, rfl⟩
  simp only [dIx_loc e3, hy]
  refine ⟨_, rfl, hz1, dMulA_ap (by simp) (by omega) (by omega) (by simp) ?_⟩
  have g : Gr l S S3 := ((Gr.refl hl).app _).trans g3
  have r3 := g.get hr n2
  have s3 := g.get hsh n1
  rw [rep_flat]
  simp
  refine ⟨by omega, hz2, hz1, tyD_loc r3, ?_⟩
  rw [dLen_loc r3]
  simp
  refine ⟨l, _, rfl, by omega, by omega, g.at_, fun n4 S4 a4 b4 g4 => ?_⟩
  have r4 := g4.get r3 n2
  have s4 := g4.get s3 n1
  obtain ⟨q, hq, hqm⟩ : ∃ q, atI (ps.map shD) (i : Int) = some (shD q) ∧ q ∈ ps := by
    refine ⟨ps[i], ?_, List.getElem_mem hi⟩
    rw [atI_nn (by omega)]
    simp [hi]
  have hqo := hps q hqm
  simp only [dIx_loc s4, hq]
  refine ⟨_, rfl, ?_⟩
  simp [shD, hz1]
  rw [dIx_loc s4, show atI (ps.map shD) (i : Int) = some (.tup [.str q.1, .int q.2]) from hq]
  refine ⟨_, rfl, ?_⟩
  simp
  refine dMulA_ap (by simp) (by omega) (by omega) (by simp) ?_
  rw [rep_flat]
  simp
  refine ⟨by omega, hz3, ?_⟩
  rw [dInsert_loc r4]
  have p63 : (2 : Int) ^ 63 = 9223372036854775808 := by decide
  refine ⟨by simp; omega, a4, by omega, ?_⟩
  have eR : D.tup [D.tup (D.str q.1 :: List.replicate q.2 (D.int 2)), D.non, D.tup [D.tup [D.str (if neg = true then Str.ofString "not" else Str.ofString "is"), D.tup (D.str p.1 :: List.replicate p.2 (D.int 1))]]] = Ru.d ⟨q.1, List.replicate q.2 (.num 2), none, [.lk neg p.1 (List.replicate p.2 (.num 1))]⟩ := by
    simp only [Ru.d, made_rep, grD, List.map_cons, List.map_nil, Pa.d]
    rfl
  have p200 : (1 : Nat) < 2 ^ 200 ∧ (2 : Nat) < 2 ^ 200 := by decide
  have okR : okRu ⟨q.1, List.replicate q.2 (.num 2), none, [.lk neg p.1 (List.replicate p.2 (.num 1))]⟩ := {
    w := hqo.1
    ts := by simpa using hqo.2
    ok := fun t ht => by
      rw [List.eq_of_mem_replicate ht]
      exact okT_num (by simpa using p200.2)
    gr := fun xs e => nomatch e
    bl := by simp
    body := fun z hz => by
      rw [List.mem_singleton.mp hz]
      refine ⟨hp.1, by simpa using hp.2, fun t ht => ?_⟩
      rw [List.eq_of_mem_replicate ht]
      exact okT_num (by simpa using p200.1) }
  rw [eR]
  generalize (⟨q.1, List.replicate q.2 (.num 2), none, [.lk neg p.1 (List.replicate p.2 (.num 1))]⟩ : Ru) = nr at okR ⊢
  have eL : ((rs.map Ru.d).take n4.toNat ++ [Ru.d nr] ++ (rs.map Ru.d).drop n4.toNat) = (rs.take n4.toNat ++ [nr] ++ rs.drop n4.toNat).map Ru.d := by simp
  rw [eL]
  have l4 := lt_of_get r4
  have gg := g.trans g4
  refine h _ _ _ _ (get_set r4) ?_ (fun r hr => ?_) ?_ ?_ fun j o h1 h2 e => ?_
  · simp
    omega
  · rcases List.mem_append.mp hr with hr | hr
    · rcases List.mem_append.mp hr with hr | hr
      · exact ho r (List.mem_of_mem_take hr)
      · rw [List.mem_singleton.mp hr]; exact okR
    · exact ho r (List.mem_of_mem_drop hr)
  · obtain ⟨p, q, e, t⟩ := gg.at_
    exact ⟨p, q, by rw [List.getElem?_set_ne n2]; exact e, t⟩
  · have := gg.x.1
    simpa using this
  · rw [List.getElem?_set_ne (Ne.symm h2)]
    exact gg.get e h1
theorem long_ok {R : DEnds} {n l sh rl : Nat} {b : Bool} {v1 v3 v7 v8 v9 : Option D} {ps : List (Str × Nat)} {S : Sto} (hn : n ≤ 12) (hn7 : 7 ≤ n) (hl : LAt l S) (hsh : S[sh]? = some (.lst (ps.map shD))) (hp : ps.length = n + 1) (hps : ∀ p ∈ ps, Wok p.1 ∧ p.2 ≤ 4)
    (hr : S[rl]? = some (.lst [])) (n1 : sh ≠ l) (n2 : rl ≠ l) (n3 : sh ≠ rl)
    (h : ∀ (rs : List Ru) S' v3 v7 v8 v9, S'[rl]? = some (.lst (rs.map Ru.d)) → rs.length = n → (∀ r ∈ rs, okRu r) → LAt l S' → S.length ≤ S'.length → (∀ j o, j ≠ l → j ≠ rl → S[j]? = some o → S'[j]? = some o) → R.nx [some (.loc l), v1, some (.int n), v3, some (.loc sh), some (.bl b), some (.loc rl), v7, v8, v9] S') :
    forGo (fun _ => True) (wgName 3) (w_lbody S_law_pick) R (rangeD 0 n) [some (.loc l), v1, some (.int n), v3, some (.loc sh), some (.bl b), some (.loc rl), v7, v8, v9] S := by
  have hsl : sizeLine = 16777216 := sizeLine_eq
  have hz1 : 1 ≤ sizeLine := by omega
  have hz2 : 2 ≤ sizeLine := by omega
  have hz3 : 3 ≤ sizeLine := by omega
  refine forGo_run (fun items τ S' => ∃ (i : Nat) (rs : List Ru) (v3 v7 v8 v9 : Option D), items = rangeD i (n - i) ∧ i ≤ n ∧ τ = [some (.loc l), v1, some (.int n), v3, some (.loc sh), some (.bl b), some (.loc rl), v7, v8, v9] ∧
      S'[rl]? = some (.lst (rs.map Ru.d)) ∧ rs.length = i ∧ (∀ r ∈ rs, okRu r) ∧ LAt l S' ∧ S.length ≤ S'.length ∧ (∀ j o, j ≠ l → j ≠ rl → S[j]? = some o → S'[j]? = some o))
    ⟨0, [], _, _, _, _, by simp, Nat.zero_le _, rfl, hr, rfl, by simp, hl, Nat.le_refl _, fun _ _ _ _ e => e⟩ ?_ ?_
  · rintro τ S' ⟨i, rs, v3, v7, v8, v9, r0, r1, rfl, r2, r3, r4, r5, r6, r7⟩
    refine ⟨trivial, ?_⟩
    have := congrArg List.length r0
    simp at this
    exact h rs S' _ _ _ _ r2 (by omega) r4 r5 r6 r7
  · rintro it q τ S' N ⟨i, rs, v3, v7, v8, v9, r0, r1, rfl, r2, r3, r4, r5, r6, r7⟩ hN
    refine ⟨trivial, ?_⟩
    obtain ⟨rfl, rfl, hpos2⟩ := rangeD_split r0
    simp [w_lbody]
    have s' := r7 _ _ n1 n3 hsh
    have body : ∀ p ∈ ps, w_lb2 S_law_pick { nx := N, rt := R.rt, bk := R.nx, ct := N } [some (D.loc l), v1, some (D.int ↑n), some (D.int ↑i), some (D.loc sh), some (D.bl b), some (D.loc rl), some (shD p), v8, v9] S' := fun p hpm => by
      refine lb2_ok r5 s' (by omega) hps (hps p hpm) r2 (by omega) r4 n1 n2 n3 fun rs' S2 v8 v9 k1 k2 k3 k4 k5 k6 => ?_
      exact hN _ _ ⟨i + 1, rs', _, _, _, _, by simp <;> congr 1 <;> omega, by omega, rfl, k1, by omega, k3, k4, by omega, fun j o h1 h2 e => k6 j o h1 h2 (r7 j o h1 h2 e)⟩
    have at_ : ∀ k : Int, -1 ≤ k → k < n → ∃ p ∈ ps, atI (ps.map shD) k = some (shD p) := fun k h0 h1 => by
      by_cases hk : k = -1
      · subst hk
        rw [atI_neg1]
        have hne : ps ≠ [] := fun e => by rw [e] at hp; simp at hp
        refine ⟨ps.getLast hne, List.getLast_mem hne, ?_⟩
        rw [List.length_map, List.getElem?_map, ← List.getLast?_eq_getElem?, List.getLast?_eq_some_getLast hne]
        rfl
      · refine ⟨ps[k.toNat]'(by omega), List.getElem_mem _, ?_⟩
        rw [atI_nn (by omega)]
        have hk2 : k.toNat < ps.length := by omega
        simp [hk2]
    obtain ⟨p1, m1, q1⟩ := at_ ((i : Int) - 1) (by omega) (by omega)
    obtain ⟨p2, m2, q2⟩ := at_ ((n : Int) - 1) (by omega) (by omega)
    have one : dIx (D.loc sh) (D.int ((i : Int) - 1)) S' fun d S1 => w_lb2 S_law_pick { nx := N, rt := R.rt, bk := R.nx, ct := N } [some (D.loc l), v1, some (D.int ↑n), some (D.int ↑i), some (D.loc sh), some (D.bl b), some (D.loc rl), some d, v8, v9] S1 := by
      rw [dIx_loc s', q1]
      exact ⟨_, rfl, body p1 m1⟩
    by_cases hi0 : i = 0
    · refine .inr ⟨hi0, ?_⟩
      cases b with
      | false => exact .inl ⟨rfl, one⟩
      | true =>
        refine .inr ⟨rfl, ?_⟩
        rw [dIx_loc s', q2]
        exact ⟨_, rfl, body p2 m2⟩
    · exact .inl ⟨hi0, one⟩
def S_law_long : DSp := fun ds S R => ∃ (l wl : Nat), ds = [.loc l, .loc wl] ∧ LAt l S ∧ WsAt wl S ∧ ∀ (m : Nat) (rs : List Ru) S', S'[m]? = some (.lst (rs.map Ru.d)) → rs.length ≤ 12 → (∀ r ∈ rs, okRu r) → S.length ≤ m → Gr l S S' → R (.loc m) S'
theorem sem_law_long : ∀ ds S R, S_law_long ds S R → ds.length = 2 ∧ w_law_long S_law_pick (endsD R) (startD 10 ds) S := by
  rintro ds S R ⟨l, wl, rfl, hl, ⟨ws, hw1, hw2, hw3⟩, h⟩
  refine ⟨rfl, ?_⟩
  have hsl : sizeLine = 16777216 := sizeLine_eq
  have hz1 : 1 ≤ sizeLine := by omega
  have hz2 : 2 ≤ sizeLine := by omega
  have hz3 : 3 ≤ sizeLine := by omega
  have hne : wl ≠ l := WsAt.ne ⟨ws, hw1, hw2, hw3⟩ hl
  rw [w_law_long_eq]
  simp [startD]
  refine ⟨l, 6, rfl, by decide, by decide, hl, fun n1 S1 a1 c1 g1 => ?_⟩
  obtain ⟨many, rfl⟩ : ∃ many : Nat, n1 = many := ⟨n1.toNat, by omega⟩
  simp
  have er : rangeD 0 (7 + (many : Int) + 1).toNat = (List.range (many + 8)).map fun k => D.int (k : Nat) := by
    unfold rangeD
    have : (7 + (many : Int) + 1).toNat = many + 8 := by omega
    rw [this]
    refine List.map_congr_left fun k _ => ?_
    simp
  rw [er]
  refine ⟨by omega, by omega, ?_⟩
  have shp (k : Nat) : ∃ w, atI (ws.map D.str) (Int.fmod k 6) = some (.str w) ∧ Wok w := by
    have fb := fmod_bounds (k : Int) (b := 6) (by decide)
    exact atW hw3 fb.1 (by omega)
  refine lc_over (as := List.range (many + 8)) (fun k => D.int (k : Nat)) (fun k => shD ((shp k).choose, k / 6)) (fun S' => Gr l S S') g1 (fun _ _ => trivial) (by simp; omega) (fun k S2 K hk y hK => ?_) fun S2 y2 => ?_
  · simp [wipeD]
    rw [dIx_loc (y.get hw1 hne), (shp k).choose_spec.1]
    refine ⟨_, rfl, cdiv_of 10 (by decide) (by decide) (by decide) (by decide), hz2, ?_⟩
    exact hK S2 y
  · have e2 : ((List.range (many + 8)).map fun k => shD ((shp k).choose, k / 6)) = ((List.range (many + 8)).map fun k => ((shp k).choose, k / 6)).map shD := by rw [List.map_map]; rfl
    rw [e2]
    have lps : ((List.range (many + 8)).map fun k => ((shp k).choose, k / 6)).length = many + 7 + 1 := by simp
    have ops : ∀ p ∈ ((List.range (many + 8)).map fun k => ((shp k).choose, k / 6)), Wok p.1 ∧ p.2 ≤ 4 := fun p hp => by
      obtain ⟨k, hk, rfl⟩ := List.mem_map.mp hp
      have := List.mem_range.mp hk
      exact ⟨(shp k).choose_spec.2, by dsimp only; omega⟩
    generalize ((List.range (many + 8)).map fun k => ((shp k).choose, k / 6)) = ps at lps ops
    refine ⟨l, 2, rfl, by decide, by decide, y2.at_.le (Le.app _ _), fun n3 S3 a3 c3 g3 => ?_⟩
    have hne2 : S2.length ≠ l := y2.at_.ne (Nat.le_refl _)
    have k3 := g3.get (get_new (S := S2)) hne2
    have gA := (y2.app [.lst (ps.map shD)]).trans g3
    have l3 := gA.x.1
    have l3b := g3.x.1
    simp at l3b
    have hne3 : S3.length ≠ l := gA.at_.ne (Nat.le_refl _)
    have loop : ∀ b : Bool, forGo (fun _ => True) (wgName 3) (w_lbody S_law_pick) (seqE (wRet (wVar 6)) (endsD R)) (rangeD 0 (7 + (many : Int)).toNat)
        [some (D.loc l), some (D.loc wl), some (D.int (7 + many)), none, some (D.loc S2.length), some (D.bl b), some (D.loc S3.length), none, none, none] (S3 ++ [O.lst []]) := fun b => by
      have e3 : (7 + (many : Int)).toNat = many + 7 := by omega
      have e4 : (7 + (many : Int)) = ((many + 7 : Nat) : Int) := by omega
      rw [e3, e4]
      refine long_ok (by omega) (by omega) (gA.at_.le (Le.app _ _)) (get_app k3) lps ops get_new hne2 hne3 (by omega) fun rs S' v3 v7 v8 v9 q1 q2 q3 q4 q5 q6 => ?_
      simp
      have q5' : S3.length + 1 ≤ S'.length := by simpa using q5
      refine h _ rs S' q1 (by omega) q3 l3 ⟨q4, by omega, fun j o hj e => ?_⟩
      have := lt_of_get e
      exact q6 j o hj (by omega) (get_app (gA.get e hj))
    by_cases h0 : n3 = 0
    · exact .inr ⟨by simp [h0], by omega, by omega, loop true⟩
    · exact .inl ⟨by simp [h0], by omega, by omega, loop false⟩

/-- numbers handed on -/
structure Nbs (M : List D) (z : Int) : Prop where
  ln : M.length ≤ 31
  ok : ∀ d ∈ M, ∃ i : Int, d = .int i
  la : atI M (-1) = some (.int z)
  fi : ∃ y, atI M 0 = some (.int y)
  sm : Sm z
theorem cut_len (M : List D) (lo hi : Option Int) : (cutD M lo hi).length ≤ M.length := by
  simp only [cutD]
  simp [List.length_take]
  omega
theorem cut_mem {M : List D} {lo hi : Option Int} {d : D} (h : d ∈ cutD M lo hi) : d ∈ M := by
  simp only [cutD] at h
  exact List.mem_of_mem_drop (List.mem_of_mem_take h)
def ThR (S : Sto) (R : DQ) : Prop := ∀ m ts S', S'[m]? = some (.lst ts) → ts.length ≤ 100 → (∀ t ∈ ts, KnD S' t ∧ Hd t) → Le S S' → R (.loc m) S'
theorem Hd.str {w : Str} {xs : List D} : Hd (.tup (.str w :: xs)) := fun x ys e => by
  injection e with e
  injection e with e _
  rw [← e]
  simp [plainD]
theorem Hd.loc {l : Nat} : Hd (.loc l) := fun _ _ e => nomatch e
theorem KnD.ints {S : Sto} {ds : List D} (hl : ds.length ≤ 1000) (h : ∀ d ∈ ds, ∃ i : Int, d = .int i) : KnD S (.tup ds) := .tup hl fun d hd => by
  obtain ⟨i, rfl⟩ := h d hd
  exact .int
theorem KnD.snoc {S : Sto} {ds : List D} {e : D} (hl : ds.length ≤ 900) (h : ∀ d ∈ ds, ∃ i : Int, d = .int i) (he : KnD S e) : KnD S (.tup (ds ++ [e])) := .tup (by simp; omega) fun d hd => by
  rcases List.mem_append.mp hd with hd | hd
  · obtain ⟨i, rfl⟩ := h d hd
    exact .int
  · rw [List.mem_singleton.mp hd]
    exact he
theorem KnD.one {S : Sto} {e : D} (he : KnD S e) : KnD S (.tup [e]) := .tup (by simp) fun d hd => by
  rw [List.mem_singleton.mp hd]
  exact he
theorem KnD.two {S : Sto} {e f : D} (he : KnD S e) (hf : KnD S f) : KnD S (.tup [e, f]) := .tup (by simp) fun d hd => by
  simp only [List.mem_cons, List.not_mem_nil, or_false] at hd
  rcases hd with rfl | rfl
  · exact he
  · exact hf
theorem KnD.three {S : Sto} {e f g : D} (he : KnD S e) (hf : KnD S f) (hg : KnD S g) : KnD S (.tup [e, f, g]) := .tup (by simp) fun d hd => by
  simp only [List.mem_cons, List.not_mem_nil, or_false] at hd
  rcases hd with rfl | rfl | rfl
  · exact he
  · exact hf
  · exact hg
theorem KnD.lit {S : Sto} {w : Str} (h : w.length ≤ 100 := by decide +kernel) : KnD S (.str w) := .str (by omega)
theorem sm_str {z : Int} (h : Sm z) : (Str.ofString z.repr).length ≤ 100 := by
  obtain ⟨h0, h1⟩ := h
  obtain ⟨k, rfl⟩ : ∃ k : Nat, z = k := ⟨z.toNat, by omega⟩
  have all : ∀ k : Fin 20, (Str.ofString ((k.val : Nat) : Int).repr).length ≤ 100 := by decide +kernel
  exact all ⟨k, by omega⟩
theorem rings_end {S9 S : Sto} {R : DQ} {L M : List D} {z n : Int} {a : Option D} {chk : Sto → Prop} (B : Nbs M z) (h : ThR S R) (y : Le S S9) (hc : ∀ S', Le S9 S' → chk S') (hL : ∀ d ∈ L, KnD S9 d) (hl : L.length ≤ 50) :
    lcGo chk (wgName 3) wYes (wTup (wCons (wC (D.str (Str.ofString "ring"))) (wCons (wVar 3) wNil))) (wipeD [some (D.tup M), some (D.int n), a, none] [3])
    (fun d1 S1 => dAdd d1 (D.loc (List.length S1 + 1)) (S1 ++ [O.lst [D.str (Str.ofString "ring"), D.tup M],
            O.lst [D.tup [D.str (Str.ofString "ring"), D.tup M, D.int 0], D.loc (List.length S1), D.tup [D.str (Str.ofString "rings"), D.tup M], D.tup [D.str (Str.ofString "ring")]]]) R)
    L [] S9 := by
  have hsl : sizeLine = 16777216 := sizeLine_eq
  have hz2 : 2 ≤ sizeLine := by omega
  have ml := B.ln
  have hm : ∀ (chk : Sto → Prop) (g : WG) (e : WE) (τ : DEnv) (R : DQ) (S : Sto), lcGo chk g wYes e τ R (L.map id) [] S → lcGo chk g wYes e τ R L [] S := fun _ _ _ _ _ _ z => by simpa using z
  refine hm _ _ _ _ _ _ ?_
  refine lc_over (as := L) id (fun x => D.tup [.str (Str.ofString "ring"), x]) (Le S9) (Le.refl S9) hc (by omega) (fun x S' N hxm hS hN => ?_) fun S' hS => ?_
  · simp [wipeD, hz2]
    exact hN S' hS
  · generalize hT : L.map (fun x => D.tup [.str (Str.ofString "ring"), x]) = T
    have hTl : T.length ≤ 50 := by rw [← hT]; simpa using hl
    have e1 : (S' ++ [O.lst T]).length = S'.length + 1 := by simp
    rw [dAdd_loc, e1]
    simp
    refine ⟨_, (by rw [List.getElem_append_right (by omega)]; simp [show S'.length + 1 + 1 - S'.length = 2 by omega]; rfl), by simp; omega, ?_⟩
    have yE : Le S' (S' ++ [O.lst T, O.lst [D.str (Str.ofString "ring"), D.tup M], O.lst [D.tup [D.str (Str.ofString "ring"), D.tup M, D.int 0], D.loc (S'.length + 1), D.tup [D.str (Str.ofString "rings"), D.tup M], D.tup [D.str (Str.ofString "ring")]], O.lst (T ++ [D.tup [D.str (Str.ofString "ring"), D.tup M, D.int 0], D.loc (S'.length + 1), D.tup [D.str (Str.ofString "rings"), D.tup M], D.tup [D.str (Str.ofString "ring")]])]) := Le.app _ _
    have k1 : (S' ++ [O.lst T, O.lst [D.str (Str.ofString "ring"), D.tup M], O.lst [D.tup [D.str (Str.ofString "ring"), D.tup M, D.int 0], D.loc (S'.length + 1), D.tup [D.str (Str.ofString "rings"), D.tup M], D.tup [D.str (Str.ofString "ring")]], O.lst (T ++ [D.tup [D.str (Str.ofString "ring"), D.tup M, D.int 0], D.loc (S'.length + 1), D.tup [D.str (Str.ofString "rings"), D.tup M], D.tup [D.str (Str.ofString "ring")]])])[S'.length + 1]? = some (.lst [D.str (Str.ofString "ring"), D.tup M]) := by rw [get_at]; rfl
    refine h (S'.length + 3) (T ++ [D.tup [D.str (Str.ofString "ring"), D.tup M, D.int 0], D.loc (S'.length + 1), D.tup [D.str (Str.ofString "rings"), D.tup M], D.tup [D.str (Str.ofString "ring")]]) _ (by rw [get_at]; rfl) (by simp; omega) (fun t ht => ?_) (y.trans (hS.trans yE))
    have kM := fun S => KnD.ints (S := S) (ds := M) (by omega) B.ok
    rcases List.mem_append.mp ht with ht | ht
    · rw [← hT] at ht
      obtain ⟨d, hd, rfl⟩ := List.mem_map.mp ht
      exact ⟨.two .lit ((hL d hd).le (hS.trans yE)), .str⟩
    · simp only [List.mem_cons, List.not_mem_nil, or_false] at ht
      rcases ht with rfl | rfl | rfl | rfl
      · exact ⟨.three .lit (kM _) .int, .str⟩
      · exact ⟨.lst k1, .loc⟩
      · exact ⟨.two .lit (kM _), .str⟩
      · exact ⟨.one .lit, .str⟩
def S_law_rings : DSp := fun ds S R => ∃ (M : List D) (z n : Int), ds = [.tup M, .int n] ∧ Nbs M z ∧ ThR S R
theorem sem_law_rings : ∀ ds S R, S_law_rings ds S R → ds.length = 2 ∧ w_law_rings (endsD R) (startD 4 ds) S := by
  rintro ds S R ⟨M, z, n, rfl, B, h⟩
  refine ⟨rfl, ?_⟩
  have hsl : sizeLine = 16777216 := sizeLine_eq
  have hz1 : 1 ≤ sizeLine := by omega
  have hz2 : 2 ≤ sizeLine := by omega
  have hz3 : 3 ≤ sizeLine := by omega
  have hz6 : 6 ≤ sizeLine := by omega
  have hz8 : 8 ≤ sizeLine := by omega
  have hz7 : 7 ≤ sizeLine := by omega
  have hz4 : 4 ≤ sizeLine := by omega
  have hp : CPow 10 30 := by unfold CPow; decide
  have a1 := cut_len M (some 1) none
  have a2 := cut_len M none (some 1)
  have a3 := cut_len M none (some (-1))
  have ml := B.ln
  have zl : z.natAbs.log2 < 1920 := by
    obtain ⟨s1, s2⟩ := B.sm
    by_cases h0 : z.natAbs = 0
    · rw [h0]; decide
    · exact Nat.lt_trans ((Nat.log2_lt h0).mpr (show z.natAbs < 2 ^ 5 by omega)) (by decide)
  have l1 : M.length + (cutD M none (some 1)).length ≤ sizeLine := by omega
  have l2 : (cutD M (some 1) none).length + (cutD M none (some 1)).length ≤ sizeLine := by omega
  have l3 : M.length + 1 ≤ sizeLine := by omega
  have l4 : (cutD M none (some (-1))).length + 1 ≤ sizeLine := by omega
  simp [w_law_rings, startD, hz1, hz2, hz3, hz4, hz6, hz7, hz8, B.la, hp, zl, l1, l2, l3, l4]
  refine ⟨_, (by rw [List.getElem_append_right (by omega)]; simp [show S.length + 1 + 1 - S.length = 2 by omega]; rfl), by simp; omega, _, (by rw [List.getElem_append_right (by omega)]; simp [show S.length + 4 + 1 + 1 - S.length = 6 by omega]; rfl), by simp; omega, ?_⟩
  refine ⟨_, _, itemsD_loc (by rw [List.getElem?_append_right (by omega)]; simp; rfl), ?_⟩
  have i1 := fun d (hd : d ∈ cutD M (some 1) none) => B.ok d (cut_mem hd)
  have i2 := fun d (hd : d ∈ cutD M none (some 1)) => B.ok d (cut_mem hd)
  have i3 := fun d (hd : d ∈ cutD M none (some (-1))) => B.ok d (cut_mem hd)
  have app : ∀ {A C : List D}, (∀ d ∈ A, ∃ i : Int, d = .int i) → (∀ d ∈ C, ∃ i : Int, d = .int i) → ∀ d ∈ A ++ C, ∃ i : Int, d = .int i := fun hA hC d hd => by
    rcases List.mem_append.mp hd with hd | hd
    · exact hA d hd
    · exact hC d hd
  refine rings_end B h (Le.app _ _) (fun S' y => y _ _ (by rw [List.getElem?_append_right (by omega)]; simp)) (fun d hd => ?_) (by simp)
  simp only [List.mem_cons, List.not_mem_nil, or_false] at hd
  rcases hd with rfl | rfl | rfl | rfl | rfl | rfl | rfl | rfl | rfl | rfl | rfl | rfl | rfl | rfl | rfl | rfl | rfl | rfl | rfl | rfl | rfl
  · exact .tup (by simp) (by simp)
  · exact .ints (by omega) i1
  · exact .ints (by simp; omega) fun d hd => B.ok d (List.mem_reverse.mp hd)
  · exact .ints (by simp; omega) (app B.ok i2)
  · exact .ints (by simp; omega) (app i1 i2)
  · exact .snoc (by omega) B.ok .int
  · exact .snoc (by omega) B.ok .int
  · exact .snoc (by omega) B.ok .int
  · exact .lst (by rw [get_at]; rfl)
  · exact .one .bl
  · exact .one .bl
  · exact .one .non
  · exact .one .lit
  · exact .one (.one .int)
  · exact .snoc (by omega) i3 (.lit (sm_str B.sm))
  · exact .snoc (by omega) i3 (.lst (by rw [get_at]; rfl))
  · exact .dct (l := S.length + 4 + 1) (by rw [Nat.add_assoc, get_at]; rfl)
  · exact .non
  · exact .int
  · exact .lit
  · exact .int

def S_law_twos : DSp := fun ds S R => ∃ (M : List D) (z n : Int), ds = [.tup M, .int n] ∧ Nbs M z ∧ ThR S R
theorem sem_law_twos : ∀ ds S R, S_law_twos ds S R → ds.length = 2 ∧ w_law_twos (endsD R) (startD 5 ds) S := by
  rintro ds S R ⟨M, z, n, rfl, B, h⟩
  refine ⟨rfl, ?_⟩
  have hsl : sizeLine = 16777216 := sizeLine_eq
  have hz1 : 1 ≤ sizeLine := by omega
  have hz2 : 2 ≤ sizeLine := by omega
  have hz3 : 3 ≤ sizeLine := by omega
  have hz4 : 4 ≤ sizeLine := by omega
  have hz5 : 5 ≤ sizeLine := by omega
  have hz13 : 13 ≤ sizeLine := by omega
  have ml := B.ln
  obtain ⟨y, fy⟩ := B.fi
  simp [w_law_twos, startD, hz1, hz2, hz3, hz4, hz5, hz13, B.la, fy]
  refine ⟨by omega, _, (by rw [List.getElem_append_right (by omega)]; simp [show S.length + 3 + 1 - S.length = 4 by omega]; rfl), by simp; omega, _, (by rw [List.getElem_append_right (by omega)]; simp [show S.length + 6 + 1 + 1 - S.length = 8 by omega]; rfl), by simp; omega, ?_⟩
  have kM := fun S => KnD.ints (S := S) (ds := M) (by omega) B.ok
  have hp : ∀ {a : D} {as : List D}, plainD 100 a = true → Hd (.tup (a :: as)) := fun {a as} ha x ys e => by
    injection e with e
    injection e with e _
    rw [← e]
    exact ha
  refine h (S.length + 9) _ _ (by rw [get_at]; rfl) (by simp) (fun d hd => ?_) (Le.app _ _)
  simp only [List.mem_cons, List.mem_append, List.cons_append, List.nil_append, List.not_mem_nil, or_false] at hd
  rcases hd with rfl | rfl | rfl | rfl | rfl | rfl | rfl | rfl | rfl | rfl | rfl | rfl | rfl | rfl | rfl | rfl | rfl | rfl | rfl | rfl | rfl | rfl | rfl | rfl | rfl | rfl | rfl | rfl
  · exact ⟨.three .lit .int .int, .str⟩
  · exact ⟨.three .lit .int .int, .str⟩
  · exact ⟨.three .lit .int .int, .str⟩
  · exact ⟨.three .lit .int .int, .str⟩
  · exact ⟨.three .lit .bl .bl, .str⟩
  · exact ⟨.three .lit .lit .lit, .str⟩
  · exact ⟨.three .lit .non .int, .str⟩
  · exact ⟨.three .lit (.one .int) .int, .str⟩
  · refine ⟨.tup (by simp) fun d hd => ?_, .str⟩
    simp only [List.mem_cons, List.not_mem_nil, or_false] at hd
    rcases hd with rfl | rfl | rfl | rfl
    · exact .lit
    · exact .int
    · exact .int
    · exact .int
  · exact ⟨.two .lit .int, .str⟩
  · exact ⟨.lst (by rw [get_at]; rfl), .loc⟩
  · exact ⟨.three .lit .int .int, .str⟩
  · exact ⟨.two .lit (kM _), .str⟩
  · exact ⟨.three .lit .int .int, .str⟩
  · exact ⟨.three .int .int .int, hp (by simp [plainD])⟩
  · exact ⟨.non, fun _ _ e => nomatch e⟩
  · exact ⟨.bl, fun _ _ e => nomatch e⟩
  · exact ⟨.int, fun _ _ e => nomatch e⟩
  · exact ⟨.int, fun _ _ e => nomatch e⟩
  · exact ⟨.lit, fun _ _ e => nomatch e⟩
  · exact ⟨.lit, fun _ _ e => nomatch e⟩
  · exact ⟨.lit, fun _ _ e => nomatch e⟩
  · exact ⟨.lst (by rw [get_at]; rfl), .loc⟩
  · exact ⟨.dct (l := S.length + 6 + 1) (by rw [Nat.add_assoc, get_at]; rfl), .loc⟩
  · exact ⟨.tup (by simp) (by simp), fun _ _ e => nomatch e⟩
  · exact ⟨.one .lit, .str⟩
  · exact ⟨.two (.one .lit) (kM _), hp (by simp [plainD, plainsD])⟩
  · exact ⟨.two .non (kM _), hp (by simp [plainD])⟩

def w_rest (sp_law_rings sp_law_twos sp_is_bar sp_law_is_bar : DSp) : WS := (wSeq (wFor (wiAny (wOp dAdd (wCall sp_law_rings (wCons (wVar 5) (wCons (wCB dLen (wCons (wVar 2) wNil)) wNil))) (wCall sp_law_twos (wCons (wVar 5) (wCons (wCB dLen (wCons (wVar 2) wNil)) wNil))))) (wgName 6)
    (wSeq (wAsg (wCall sp_is_bar (wCons (wVar 3) (wCons (wVar 6) wNil))) (wgName 7))
  (wIfS (wOr (wNot (wTruth (wIsi "bool" (wVar 7)))) (wTest (wOp dNe (wVar 7) (wCall sp_law_is_bar (wCons (wVar 2) (wCons (wVar 6) wNil))))))
    (wRet (wC (.bl false)))
    wSkip)))
  (wIfS (wTest (wOp dNe (wVar 3) (wVar 2)))
    (wRet (wC (.bl false)))
    wSkip))
theorem w_law_eq (sp_law_set sp_law_long sp_law_left sp_law_words sp_bar sp_law_rings sp_law_twos sp_is_bar sp_law_is_bar : DSp) : w_law sp_law_set sp_law_long sp_law_left sp_law_words sp_bar sp_law_rings sp_law_twos sp_is_bar sp_law_is_bar =
  (wSeq (wAsg (wLc (wiRange2 (wCons (wC (.int 3)) (wCons (wC (.int 9)) wNil))) (wgName 8) wYes (wCall sp_law_set (wCons (wVar 0) (wCons (wVar 8) wNil))) [8]) (wgName 1))
  (wSeq (wDrop (wMt "list" dAppend (wVar 1) (wCons (wCall sp_law_long (wCons (wCall sp_law_left (wCons (wVar 0) (wCons (wC (.int 9)) wNil))) (wCons (wCall sp_law_words (wCons (wCall sp_law_left (wCons (wVar 0) (wCons (wC (.int 1)) wNil))) wNil)) wNil))) wNil)))
  (wSeq (wFor (wiAny (wVar 1)) (wgName 2)
    (wSeq (wAsg (wCB dListA (wCons (wVar 2) wNil)) (wgName 3))
  (wSeq (wAsg (wCall sp_bar (wCons (wVar 3) wNil)) (wgName 4))
  (wSeq (wAsg (wTup (wCons (wC (.int 0)) wNil)) (wgName 5))
  (wSeq (wIfS (wTest (wOp dIsNotN (wVar 4) (wC .non)))
    (wAsg (wIf (wTest (wOp dEq (wOp dIx (wVar 4) (wC (.int 0))) (wC (.str "ring")))) (wOp dIx (wVar 4) (wC (.int 1))) (wSl dSl (wVar 4) (wPart (wC (.int 1))) wNoPart)) (wgName 5))
    wSkip)
  (w_rest sp_law_rings sp_law_twos sp_is_bar sp_law_is_bar))))))
  (wRet (wC (.bl true)))))) := rfl
theorem ru_plains {rs : List Ru} (h : ∀ r ∈ rs, okRu r) : plainsD 100 (rs.map Ru.d) = true := plains_of fun d hd => by
  obtain ⟨r, hr, rfl⟩ := List.mem_map.mp hd
  exact plain_mono _ (by decide) (okRu_plain (h r hr))
theorem rest_ok {R : DEnds} {a b f v6 v7 v8 : Option D} {rl hd : Nat} {rs : List Ru} {M : List D} {z : Int} {S : Sto} (hr : S[rl]? = some (.lst (rs.map Ru.d))) (hh : S[hd]? = some (.lst (rs.map Ru.d))) (ho : ∀ r ∈ rs, okRu r) (B : Nbs M z)
    (h : ∀ v6 v7 v8 S', Le S S' → R.nx [a, b, some (.loc rl), some (.loc hd), f, some (.tup M), v6, v7, v8] S') :
    w_rest S_law_rings S_law_twos S_is_bar S_law_is_bar R [a, b, some (.loc rl), some (.loc hd), f, some (.tup M), v6, v7, v8] S := by
  have hsl : sizeLine = 16777216 := sizeLine_eq
  simp [w_rest]
  rw [dLen_loc hr]
  refine ⟨M, z, _, rfl, B, fun m1 t1 S1 k1 l1 g1 y1 => ?_⟩
  dsimp only
  rw [dLen_loc (y1 _ _ hr)]
  refine ⟨M, z, _, rfl, B, fun m2 t2 S2 k2 l2 g2 y2 => ?_⟩
  dsimp only
  rw [dAdd_loc]
  refine ⟨_, _, y2 _ _ k1, k2, by omega, _, _, itemsD_loc get_new, ?_⟩
  have y02 : Le S (S2 ++ [O.lst (t1 ++ t2)]) := y1.trans (y2.trans (Le.app _ _))
  have kt : (S2 ++ [O.lst (t1 ++ t2)])[S2.length]? = some (O.lst (t1 ++ t2)) := get_new
  have gt : ∀ t ∈ t1 ++ t2, KnD (S2 ++ [O.lst (t1 ++ t2)]) t ∧ Hd t := fun t ht => by
    rcases List.mem_append.mp ht with ht | ht
    · exact ⟨(g1 t ht).1.le (y2.trans (Le.app _ _)), (g1 t ht).2⟩
    · exact ⟨(g2 t ht).1.le (Le.app _ _), (g2 t ht).2⟩
  generalize S2 ++ [O.lst (t1 ++ t2)] = S3 at y02 kt gt ⊢
  refine for_keep (fun τ S' => ∃ v6 v7, τ = [a, b, some (D.loc rl), some (D.loc hd), f, some (D.tup M), v6, v7, v8] ∧ Le S3 S') ⟨_, _, rfl, Le.refl _⟩ (fun τ S' hI => ?_) ?_ ?_
  · obtain ⟨_, _, _, y⟩ := hI
    exact y _ _ kt
  · rintro τ S' ⟨v6, v7, rfl, y⟩
    have eq1 := eqD_lsts ((y02.trans y) _ _ hh) ((y02.trans y) _ _ hr) (ru_plains ho) (ru_plains ho)
    simp
    rw [eq1]
    exact .inr ⟨by simp, h _ _ _ _ (y02.trans y)⟩
  · rintro t τ S' N ht ⟨v6, v7, rfl, y⟩ hN
    obtain ⟨q1, q2⟩ := gt t ht
    simp
    refine ⟨hd, rs, t, rfl, (y02.trans y) _ _ hh, ho, q1.le y, q2, fun S5 y5 => ?_⟩
    simp
    refine ⟨rl, rs, t, rfl, (y02.trans (y.trans y5)) _ _ hr, ho, q1.le (y.trans y5), q2, fun S6 y6 => ?_⟩
    simp
    exact hN _ _ ⟨_, _, rfl, y.trans (y5.trans y6)⟩
def RsAt (S : Sto) (m : Nat) : Prop := ∃ rs : List Ru, S[m]? = some (.lst (rs.map Ru.d)) ∧ rs.length ≤ 20 ∧ ∀ r ∈ rs, okRu r
theorem RsAt.le {S S' : Sto} {m : Nat} (h : RsAt S m) (y : Le S S') : RsAt S' m := let ⟨rs, a, b⟩ := h; ⟨rs, y _ _ a, b⟩
theorem sm_zero : Sm 0 := ⟨by decide, by decide⟩
theorem nbs_one : Nbs [.int 0] 0 := ⟨by simp, fun d hd => ⟨0, List.mem_singleton.mp hd⟩, rfl, ⟨0, rfl⟩, sm_zero⟩
theorem nbs_two {i j : Int} (hj : Sm j) : Nbs [.int i, .int j] j := ⟨by simp, fun d hd => by
  simp only [List.mem_cons, List.not_mem_nil, or_false] at hd
  rcases hd with rfl | rfl
  · exact ⟨_, rfl⟩
  · exact ⟨_, rfl⟩, rfl, ⟨i, rfl⟩, hj⟩
theorem nbs_ring {x : Int} {xs : List Int} (hl : xs.length ≤ 30) (h : ∀ z ∈ x :: xs, Sm z) : ∃ z, Nbs ((x :: xs).map D.int) z := by
  have hne : (x :: xs) ≠ [] := by simp
  refine ⟨(x :: xs).getLast hne, by simp; omega, fun d hd => ?_, ?_, ⟨x, ?_⟩, h _ (List.getLast_mem hne)⟩
  · obtain ⟨i, _, rfl⟩ := List.mem_map.mp hd
    exact ⟨i, rfl⟩
  · rw [atI_neg1, List.length_map, List.getElem?_map, ← List.getLast?_eq_getElem?, List.getLast?_eq_some_getLast hne]
    rfl
  · rw [atI_nn (by decide)]
    rfl
def S_law : DSp := fun ds S R => ∃ ns, ds = [scriptD ns] ∧ ns.length ≤ 63 ∧ ∀ S', R (.bl true) S'
theorem sem_law : ∀ ds S R, S_law ds S R → ds.length = 1 ∧ w_law S_law_set S_law_long S_law_left S_law_words S_bar S_law_rings S_law_twos S_is_bar S_law_is_bar (endsD R) (startD 9 ds) S := by
  rintro ds S R ⟨ns, rfl, hns, h⟩
  refine ⟨rfl, ?_⟩
  have hsl : sizeLine = 16777216 := sizeLine_eq
  rw [w_law_eq]
  simp [startD, scriptD]
  refine lcGo_run (fun items acc S' => ∃ (i : Nat) (ms : List Nat), items = rangeD ((i : Int) + 3) (6 - i) ∧ i ≤ 6 ∧ acc = ms.map D.loc ∧ ms.length = i ∧ (∀ m ∈ ms, RsAt S' m)) ⟨0, [], rfl, by decide, rfl, rfl, by simp⟩ ?_ ?_
  · rintro acc S1 ⟨i, ms, r0, r1, rfl, r2, r3⟩
    refine ⟨trivial, ?_⟩
    have k0 : (S1 ++ [O.lst (ms.map D.loc)])[S1.length]? = some (O.lst (ms.map D.loc)) := get_new
    have m0 : ∀ m ∈ ms, m < S1.length ∧ RsAt (S1 ++ [O.lst (ms.map D.loc)]) m := fun m hm => by
      obtain ⟨rs, e, q⟩ := r3 m hm
      exact ⟨lt_of_get e, rs, get_app e, q⟩
    have hL : (S1 ++ [O.lst (ms.map D.loc)]).length = S1.length + 1 := by simp
    generalize S1 ++ [O.lst (ms.map D.loc)] = S2 at k0 m0 hL ⊢
    refine ⟨tyD_loc k0, ns, 9, rfl, by decide, by decide, fun x1 x2 hx => ?_⟩
    have hl1 : LAt S2.length (S2 ++ [.lst [.int x1, .int x2]]) := ⟨_, _, get_new, hx⟩
    have y2 : Le S2 (S2 ++ [.lst [.int x1, .int x2]]) := Le.app _ _
    have hL3 : (S2 ++ [O.lst [.int x1, .int x2]]).length = S2.length + 1 := by simp
    generalize S2 ++ [O.lst [.int x1, .int x2]] = S3 at hl1 y2 hL3 ⊢
    refine ⟨ns, 1, rfl, by decide, by decide, fun x3 x4 hx3 => ?_⟩
    have hl3 : LAt S3.length (S3 ++ [.lst [.int x3, .int x4]]) := ⟨_, _, get_new, hx3⟩
    have hl1' : LAt S2.length (S3 ++ [.lst [.int x3, .int x4]]) := hl1.le (Le.app _ _)
    have y3 : Le S3 (S3 ++ [.lst [.int x3, .int x4]]) := Le.app _ _
    have hL4 : (S3 ++ [O.lst [.int x3, .int x4]]).length = S3.length + 1 := by simp
    generalize S3 ++ [O.lst [.int x3, .int x4]] = S4 at hl3 hl1' y3 hL4 ⊢
    refine ⟨S3.length, rfl, hl3, fun wl S5 hw _ g5 => ?_⟩
    have hl5 : LAt S2.length S5 := by
      obtain ⟨p, q, e, t⟩ := hl1'
      exact ⟨p, q, g5.get e (by omega), t⟩
    refine ⟨S2.length, wl, rfl, hl5, hw, fun m9 rs9 S6 k6 n6 o6 lm6 g6 => ?_⟩
    have up : ∀ j o, S2[j]? = some o → S6[j]? = some o := fun j o e => by
      have := lt_of_get e
      exact g6.get (g5.get (y3 _ _ (y2 _ _ e)) (by omega)) (by omega)
    have k6' := up _ _ k0
    have l5 := g5.x.1
    dsimp only
    rw [dAppend_loc k6']
    refine ⟨by simp; omega, ?_⟩
    have eL : ms.map D.loc ++ [D.loc m9] = (ms ++ [m9]).map D.loc := by simp
    rw [eL]
    have k7 : (S6.set S1.length (.lst ((ms ++ [m9]).map D.loc)))[S1.length]? = some (.lst ((ms ++ [m9]).map D.loc)) := get_set k6'
    have at7 : ∀ m ∈ ms ++ [m9], RsAt (S6.set S1.length (.lst ((ms ++ [m9]).map D.loc))) m := fun m hm => by
      rcases List.mem_append.mp hm with hm | hm
      · obtain ⟨lt, rs, e, q⟩ := m0 m hm
        exact ⟨rs, by rw [List.getElem?_set_ne (by omega)]; exact up _ _ e, q⟩
      · rw [List.mem_singleton.mp hm]
        exact ⟨rs9, by rw [List.getElem?_set_ne (by omega)]; exact k6, by omega, o6⟩
    generalize S6.set S1.length (.lst ((ms ++ [m9]).map D.loc)) = S7 at k7 at7 ⊢
    refine ⟨_, _, itemsD_loc k7, ?_⟩
    refine for_keep (fun τ S' => ∃ b c d e f g k, τ = [some (scriptD ns), some (.loc S1.length), b, c, d, e, f, g, k] ∧ Le S7 S') ⟨_, _, _, _, _, _, _, rfl, Le.refl _⟩ (fun τ S' hI => ?_) ?_ ?_
    · obtain ⟨_, _, _, _, _, _, _, _, y⟩ := hI
      exact y _ _ k7
    · rintro τ S' ⟨b, c, d, e, f, g, k, rfl, y⟩
      simpa using h _
    · rintro t τ S8 N ht ⟨b, c, d, e, f, g, k, rfl, y⟩ hN
      obtain ⟨m, hm, rfl⟩ := List.mem_map.mp ht
      obtain ⟨rs, km, lm, om⟩ := (at7 m hm).le y
      simp
      rw [dListA_loc km]
      have kh : (S8 ++ [O.lst (rs.map Ru.d)])[S8.length]? = some (O.lst (rs.map Ru.d)) := get_new
      refine ⟨S8.length, rs, rfl, kh, lm, om, fun fd S9 hf y9 => ?_⟩
      have y89 : Le S8 S9 := (Le.app _ _).trans y9
      have km9 := y89 _ _ km
      have kh9 := y9 _ _ kh
      have fin : ∀ (M : List D) (z : Int) (fd v6 v7 v8 : Option D), Nbs M z → w_rest S_law_rings S_law_twos S_is_bar S_law_is_bar { nx := N, rt := R, bk := (seqE (wRet (wC (D.bl true))) (endsD R)).nx, ct := N } [some (scriptD ns), some (.loc S1.length), some (.loc m), some (.loc S8.length), fd, some (.tup M), v6, v7, v8] S9 := fun M z fd v6 v7 v8 B => by
        refine rest_ok km9 kh9 om B fun v6 v7 v8 S' yy => ?_
        exact hN _ _ ⟨_, _, _, _, _, _, _, rfl, y.trans (y89.trans yy)⟩
      obtain ⟨ne1, ne2⟩ := ring_two
      simp
      refine ⟨by omega, ?_⟩
      rcases hf with rfl | ⟨i, j, rfl, hi, hj⟩ | ⟨x, xs, rfl, hxl, hxs⟩
      · exact .inl ⟨rfl, fin _ _ _ _ _ _ nbs_one⟩
      · refine .inr ⟨rfl, ?_⟩
        simp [ne2]
        exact fin _ _ _ _ _ _ (nbs_two hj)
      · refine .inr ⟨rfl, ?_⟩
        obtain ⟨z, B⟩ := nbs_ring hxl hxs
        simp
        exact fin _ _ _ _ _ _ (by simpa using B)
  · rintro d q acc S1 N ⟨i, ms, r0, r1, rfl, r2, r3⟩ hN
    refine ⟨trivial, ?_⟩
    obtain ⟨rfl, rfl, hp⟩ := rangeD_split r0
    simp [wipeD]
    refine ⟨ns, _, rfl, by omega, by omega, fun m rs S2 k2 l2 o2 _ y2 => ⟨by omega, ?_⟩⟩
    refine hN _ _ ⟨i + 1, ms ++ [m], by congr 1 <;> omega, by omega, by simp, by simp; omega, fun m' hm => ?_⟩
    rcases List.mem_append.mp hm with hm | hm
    · exact (r3 m' hm).le y2
    · rw [List.mem_singleton.mp hm]
      exact ⟨rs, k2, by omega, o2⟩

def top (i : Nat) : Stmt := PySem.Challenge.pw_reasonkeep_k24_things_that_are_no_bars.main.body.getD i (.Pass ⟨0, 0, 0, 0⟩)
structure Txt (mg : Str → Option Value) : Prop where
  b_all : mg "all" = none
  b_bool : mg "bool" = none
  b_dict : mg "dict" = none
  b_enumerate : mg "enumerate" = none
  b_int : mg "int" = none
  b_isinstance : mg "isinstance" = none
  b_len : mg "len" = none
  b_list : mg "list" = none
  b_max : mg "max" = none
  b_range : mg "range" = none
  b_set : mg "set" = none
  b_str : mg "str" = none
  b_tuple : mg "tuple" = none
  b_zip : mg "zip" = none
section
variable {P : Program} {w : World} {K : PySem.W.Frag} {mg : Str → Option Value} {base : Heap}
abbrev s_shape_of : Stmt := top 1
abbrev n_shape_of : List Str := ["atom"]
theorem sc_shape_of : FnScope n_shape_of ["atom"] (defScope s_shape_of) := ⟨rfl, rfl, rfl, by decide +kernel, rfl, by decide +kernel, by decide +kernel⟩
theorem ok_shape_of (T : Txt mg) {f : Addr} {fd : FuncData} (F : Fun K "shape_of" "shape_of" s_shape_of f fd) (hf : mg "shape_of" = some (.ref f)) (hb : Binds K fd ["atom"] []) {k : Nat} {sp : DSp}
    (sem : ∀ ds S R, sp ds S R → ds.length = 1 ∧ w_shape_of (endsD R) (startD 1 ds) S) : FnD P w K mg base (k + 1) "shape_of" sp := by
  refine fn_mk (N := n_shape_of) (ps := ["atom"]) (ws := w_shape_of) F sc_shape_of hf hb (by decide) (fun ds S R h => (sem ds S R h).1) (fun cdv A outer s H E hr => ?_) (fun ds S R h => (sem ds S R h).2)
  have nd : (n_shape_of).Nodup := sc_shape_of.nd
  have hu := room_units hr
  unfold w_shape_of
  exact (ds_one (ds_ret (de_tup (da_cons (de_ix (od_ix hu) (de_var 0) de_int) (da_cons (de_op od_sub (de_callB cd_len T.b_len rfl (by decide +kernel) (da_cons (de_var 0) da_nil)) de_int) da_nil)))))
abbrev s_rule_shape : Stmt := top 2
abbrev n_rule_shape : List Str := ["rule", "word", "many"]
theorem sc_rule_shape : FnScope n_rule_shape ["rule"] (defScope s_rule_shape) := ⟨rfl, rfl, rfl, by decide +kernel, rfl, by decide +kernel, by decide +kernel⟩
theorem ok_rule_shape (T : Txt mg) {f : Addr} {fd : FuncData} (F : Fun K "rule_shape" "rule_shape" s_rule_shape f fd) (hf : mg "rule_shape" = some (.ref f)) (hb : Binds K fd ["rule"] []) {k : Nat} {sp_shape_of : DSp}
    (G_shape_of : FnD P w K mg base k "shape_of" sp_shape_of) {sp : DSp}
    (sem : ∀ ds S R, sp ds S R → ds.length = 1 ∧ w_rule_shape sp_shape_of (endsD R) (startD 3 ds) S) : FnD P w K mg base (k + 1) "rule_shape" sp := by
  refine fn_mk (N := n_rule_shape) (ps := ["rule"]) (ws := w_rule_shape sp_shape_of) F sc_rule_shape hf hb (by decide) (fun ds S R h => (sem ds S R h).1) (fun cdv A outer s H E hr => ?_) (fun ds S R h => (sem ds S R h).2)
  have nd : (n_rule_shape).Nodup := sc_rule_shape.nd
  have hu := room_units hr
  unfold w_rule_shape
  exact (ds_cons (ds_asg (de_call G_shape_of (hr.mono (by omega)) rfl (da_cons (de_ix (od_ix hu) (de_var 0) de_int) da_nil)) (dg_tup rfl (dgs_cons (dg_name nd) (dgs_cons (dg_name nd) dgs_nil))))
  (ds_cons (ds_if (dt_cmp od_isNotN (de_ix (od_ix hu) (de_var 0) de_int) de_non)
    (ds_one (ds_aug nd de_int oi_add))
    ds_nil)
  (ds_one (ds_ret (de_tup (da_cons (de_var 1) (da_cons (de_var 2) da_nil)))))))
abbrev s_looked_at : Stmt := top 4
abbrev n_looked_at : List Str := ["rule", "found", "part"]
theorem sc_looked_at : FnScope n_looked_at ["rule"] (defScope s_looked_at) := ⟨rfl, rfl, rfl, by decide +kernel, rfl, by decide +kernel, by decide +kernel⟩
theorem ok_looked_at (T : Txt mg) {f : Addr} {fd : FuncData} (F : Fun K "looked_at" "looked_at" s_looked_at f fd) (hf : mg "looked_at" = some (.ref f)) (hb : Binds K fd ["rule"] []) {k : Nat} {sp_shape_of : DSp}
    (G_shape_of : FnD P w K mg base k "shape_of" sp_shape_of) {sp : DSp}
    (sem : ∀ ds S R, sp ds S R → ds.length = 1 ∧ w_looked_at sp_shape_of (endsD R) (startD 3 ds) S) : FnD P w K mg base (k + 1) "looked_at" sp := by
  refine fn_mk (N := n_looked_at) (ps := ["rule"]) (ws := w_looked_at sp_shape_of) F sc_looked_at hf hb (by decide) (fun ds S R h => (sem ds S R h).1) (fun cdv A outer s H E hr => ?_) (fun ds S R h => (sem ds S R h).2)
  have nd : (n_looked_at).Nodup := sc_looked_at.nd
  have hu := room_units hr
  unfold w_looked_at
  exact (ds_cons (ds_set nd (de_lst da_nil))
  (ds_cons (ds_for PassesOwn.never rfl (di_any (de_ix (od_ix hu) (de_var 0) de_int)) (dg_name nd)
    (ds_one (ds_if (dt_cmp (od_in hu) (de_ix (od_ix hu) (de_var 2) de_int) (de_tup (da_cons de_str (da_cons de_str da_nil))))
    (ds_one (ds_expr (de_mt PySem.F.plainAttrs_list PySem.F.slot_list_append PySem.F.type_list_append md_append (de_var 1) (da_cons (de_tup (da_cons (de_call G_shape_of (hr.mono (by omega)) rfl (da_cons (de_ix (od_ix hu) (de_var 2) de_int) da_nil)) (da_cons (de_callT cd_int1 T.b_int rfl (by decide +kernel) (da_cons (de_or (de_cmp (od_eq hu) (de_ix (od_ix hu) (de_var 2) de_int) de_str) (de_one (de_cmp od_isNotN (de_ix (od_ix hu) (de_var 0) de_int) de_non))) da_nil)) da_nil))) da_nil))))
    ds_nil)))
  (ds_one (ds_ret (de_var 1)))))
abbrev s_two_of_one_shape : Stmt := top 5
abbrev n_two_of_one_shape : List Str := ["rules", "j", "other", "i", "grouped"]
theorem sc_two_of_one_shape : FnScope n_two_of_one_shape ["rules"] (defScope s_two_of_one_shape) := ⟨rfl, rfl, rfl, by decide +kernel, rfl, by decide +kernel, by decide +kernel⟩
theorem ok_two_of_one_shape (T : Txt mg) {f : Addr} {fd : FuncData} (F : Fun K "two_of_one_shape" "two_of_one_shape" s_two_of_one_shape f fd) (hf : mg "two_of_one_shape" = some (.ref f)) (hb : Binds K fd ["rules"] []) {k : Nat} {sp_rule_shape : DSp}
    (G_rule_shape : FnD P w K mg base k "rule_shape" sp_rule_shape) {sp : DSp}
    (sem : ∀ ds S R, sp ds S R → ds.length = 1 ∧ w_two_of_one_shape sp_rule_shape (endsD R) (startD 5 ds) S) : FnD P w K mg base (k + 1) "two_of_one_shape" sp := by
  refine fn_mk (N := n_two_of_one_shape) (ps := ["rules"]) (ws := w_two_of_one_shape sp_rule_shape) F sc_two_of_one_shape hf hb (by decide) (fun ds S R h => (sem ds S R h).1) (fun cdv A outer s H E hr => ?_) (fun ds S R h => (sem ds S R h).2)
  have nd : (n_two_of_one_shape).Nodup := sc_two_of_one_shape.nd
  have hu := room_units hr
  unfold w_two_of_one_shape
  exact (ds_cons (ds_for PassesOwn.never rfl (di_enumA T.b_enumerate rfl (da_cons (de_var 0) da_nil)) (dg_tup rfl (dgs_cons (dg_name nd) (dgs_cons (dg_name nd) dgs_nil)))
    (ds_one (ds_for PassesOwn.never rfl (di_range1 T.b_range rfl (da_cons (de_var 1) da_nil)) (dg_name nd)
    (ds_cons (ds_set nd (de_or (de_cmp od_isNotN (de_ix (od_ix hu) (de_ix (od_ix hu) (de_var 0) (de_var 3)) de_int) de_non) (de_one (de_cmp od_isNotN (de_ix (od_ix hu) (de_var 2) de_int) de_non))))
  (ds_one (ds_if (PW.pt (dw_and (dt_truth (de_var 4)) (dw_and1 (dt_cmp (od_eq hu) (de_call G_rule_shape (hr.mono (by omega)) rfl (da_cons (de_ix (od_ix hu) (de_var 0) (de_var 3)) da_nil)) (de_call G_rule_shape (hr.mono (by omega)) rfl (da_cons (de_var 2) da_nil))))))
    (ds_one (ds_ret (de_tup (da_cons (de_var 3) (da_cons (de_var 1) da_nil)))))
    ds_nil))))))
  (ds_one (ds_ret de_non)))
abbrev s_way_of_rules : Stmt := top 6
abbrev n_way_of_rules : List Str := ["rules", "begin", "goal", "ways", "waiting", "at", "k", "rule", "own", "shape", "step"]
theorem sc_way_of_rules : FnScope n_way_of_rules ["rules", "begin", "goal"] (defScope s_way_of_rules) := ⟨rfl, rfl, rfl, by decide +kernel, rfl, by decide +kernel, by decide +kernel⟩
theorem ok_way_of_rules (T : Txt mg) {f : Addr} {fd : FuncData} (F : Fun K "way_of_rules" "way_of_rules" s_way_of_rules f fd) (hf : mg "way_of_rules" = some (.ref f)) (hb : Binds K fd ["rules", "begin", "goal"] []) {k : Nat} {sp_rule_shape sp_looked_at : DSp}
    (G_rule_shape : FnD P w K mg base k "rule_shape" sp_rule_shape)
    (G_looked_at : FnD P w K mg base k "looked_at" sp_looked_at) {sp : DSp}
    (sem : ∀ ds S R, sp ds S R → ds.length = 3 ∧ w_way_of_rules sp_rule_shape sp_looked_at (endsD R) (startD 11 ds) S) : FnD P w K mg base (k + 1) "way_of_rules" sp := by
  refine fn_mk (N := n_way_of_rules) (ps := ["rules", "begin", "goal"]) (ws := w_way_of_rules sp_rule_shape sp_looked_at) F sc_way_of_rules hf hb (by decide) (fun ds S R h => (sem ds S R h).1) (fun cdv A outer s H E hr => ?_) (fun ds S R h => (sem ds S R h).2)
  have nd : (n_way_of_rules).Nodup := sc_way_of_rules.nd
  have hu := room_units hr
  unfold w_way_of_rules
  exact (ds_cons (ds_set nd (de_dct hu (pp_cons (de_var 1) (de_tup da_nil) pp_nil) rfl rfl (by intro q; cases q) (by decide)))
  (ds_cons (ds_set nd (de_lst (da_cons (de_var 1) da_nil)))
  (ds_cons (ds_set nd de_int)
  (ds_cons (ds_while PassesOwn.never (dt_cmp (od_lt hu) (de_var 5) (de_callB cd_len T.b_len rfl (by decide +kernel) (da_cons (de_var 4) da_nil)))
    (ds_cons (ds_for PassesOwn.never rfl (di_enumA T.b_enumerate rfl (da_cons (de_var 0) da_nil)) (dg_tup rfl (dgs_cons (dg_name nd) (dgs_cons (dg_name nd) dgs_nil)))
    (ds_cons (ds_set nd (de_call G_rule_shape (hr.mono (by omega)) rfl (da_cons (de_var 7) da_nil)))
  (ds_one (ds_if (PW.pt (dw_and (dt_cmp (od_notIn hu) (de_var 8) (de_var 3)) (dw_and1 (dt_cmp (od_in hu) (de_ix (od_ix hu) (de_var 4) (de_var 5)) (de_lc (own := [("shape", 9), ("step", 10)]) (g := (gTup K 2 (gCons (gName 9) (gCons (gName 10) gNil)))) (own_tup2 (by decide) (by decide)) rfl nd (di_any (de_call G_looked_at (hr.mono (by omega)) rfl (da_cons (de_var 7) da_nil))) (blkOk_by (own := [("shape", 9), ("step", 10)]) (N := n_way_of_rules) (sc := (defScope s_way_of_rules)) (by decide +kernel)) (fun _ _ _ _ _ => (pg_tup rfl (pgs_cons (pg_nm nd) (pgs_cons (pg_nm nd) pgs_nil)))) (fun _ _ _ _ _ => dts_nil) (fun _ _ _ _ _ => (de_var 9)))))))
    (ds_cons (ds_asg (de_op od_add (de_ix (od_ix hu) (de_var 3) (de_ix (od_ix hu) (de_var 4) (de_var 5))) (de_tup (da_cons (de_var 6) da_nil))) (dg_sub (de_var 3) (de_var 8) (sd_set hu)))
  (ds_one (ds_expr (de_mt PySem.F.plainAttrs_list PySem.F.slot_list_append PySem.F.type_list_append md_append (de_var 4) (da_cons (de_var 8) da_nil)))))
    ds_nil))))
  (ds_one (ds_aug nd de_int oi_add))))
  (ds_one (ds_ret (de_mtD PySem.F.slot_dict_get PySem.F.type_dict_get (md_getM hu) (de_var 3) (da_cons (de_var 2) da_nil))))))))
abbrev s_ring_of_rules : Stmt := top 7
abbrev n_ring_of_rules : List Str := ["rules", "k", "rule", "shape", "step", "numbers"]
theorem sc_ring_of_rules : FnScope n_ring_of_rules ["rules"] (defScope s_ring_of_rules) := ⟨rfl, rfl, rfl, by decide +kernel, rfl, by decide +kernel, by decide +kernel⟩
theorem ok_ring_of_rules (T : Txt mg) {f : Addr} {fd : FuncData} (F : Fun K "ring_of_rules" "ring_of_rules" s_ring_of_rules f fd) (hf : mg "ring_of_rules" = some (.ref f)) (hb : Binds K fd ["rules"] []) {k : Nat} {sp_looked_at sp_way_of_rules sp_rule_shape : DSp}
    (G_looked_at : FnD P w K mg base k "looked_at" sp_looked_at)
    (G_way_of_rules : FnD P w K mg base k "way_of_rules" sp_way_of_rules)
    (G_rule_shape : FnD P w K mg base k "rule_shape" sp_rule_shape) {sp : DSp}
    (sem : ∀ ds S R, sp ds S R → ds.length = 1 ∧ w_ring_of_rules sp_looked_at sp_way_of_rules sp_rule_shape (endsD R) (startD 6 ds) S) : FnD P w K mg base (k + 1) "ring_of_rules" sp := by
  refine fn_mk (N := n_ring_of_rules) (ps := ["rules"]) (ws := w_ring_of_rules sp_looked_at sp_way_of_rules sp_rule_shape) F sc_ring_of_rules hf hb (by decide) (fun ds S R h => (sem ds S R h).1) (fun cdv A outer s H E hr => ?_) (fun ds S R h => (sem ds S R h).2)
  have nd : (n_ring_of_rules).Nodup := sc_ring_of_rules.nd
  have hu := room_units hr
  unfold w_ring_of_rules
  exact (ds_cons (ds_for PassesOwn.never rfl (di_enumA T.b_enumerate rfl (da_cons (de_var 0) da_nil)) (dg_tup rfl (dgs_cons (dg_name nd) (dgs_cons (dg_name nd) dgs_nil)))
    (ds_one (ds_for PassesOwn.never rfl (di_any (de_call G_looked_at (hr.mono (by omega)) rfl (da_cons (de_var 2) da_nil))) (dg_tup rfl (dgs_cons (dg_name nd) (dgs_cons (dg_name nd) dgs_nil)))
    (ds_one (ds_if (dt_cmp od_gt (de_var 4) de_int)
    (ds_cons (ds_set nd (de_call G_way_of_rules (hr.mono (by omega)) rfl (da_cons (de_var 0) (da_cons (de_call G_rule_shape (hr.mono (by omega)) rfl (da_cons (de_var 2) da_nil)) (da_cons (de_var 3) da_nil)))))
  (ds_one (ds_if (dt_cmp od_isNotN (de_var 5) de_non)
    (ds_one (ds_ret (de_op od_add (de_tup (da_cons (de_var 1) da_nil)) (de_var 5))))
    ds_nil)))
    ds_nil)))))
  (ds_one (ds_ret de_non)))
abbrev s_bar : Stmt := top 8
abbrev n_bar : List Str := ["rules", "two", "ring"]
theorem sc_bar : FnScope n_bar ["rules"] (defScope s_bar) := ⟨rfl, rfl, rfl, by decide +kernel, rfl, by decide +kernel, by decide +kernel⟩
theorem ok_bar (T : Txt mg) {f : Addr} {fd : FuncData} (F : Fun K "bar" "bar" s_bar f fd) (hf : mg "bar" = some (.ref f)) (hb : Binds K fd ["rules"] []) {k : Nat} {sp_two_of_one_shape sp_ring_of_rules : DSp}
    (G_two_of_one_shape : FnD P w K mg base k "two_of_one_shape" sp_two_of_one_shape)
    (G_ring_of_rules : FnD P w K mg base k "ring_of_rules" sp_ring_of_rules) {sp : DSp}
    (sem : ∀ ds S R, sp ds S R → ds.length = 1 ∧ w_bar sp_two_of_one_shape sp_ring_of_rules (endsD R) (startD 3 ds) S) : FnD P w K mg base (k + 1) "bar" sp := by
  refine fn_mk (N := n_bar) (ps := ["rules"]) (ws := w_bar sp_two_of_one_shape sp_ring_of_rules) F sc_bar hf hb (by decide) (fun ds S R h => (sem ds S R h).1) (fun cdv A outer s H E hr => ?_) (fun ds S R h => (sem ds S R h).2)
  have nd : (n_bar).Nodup := sc_bar.nd
  have hu := room_units hr
  unfold w_bar
  exact (ds_cons (ds_set nd (de_call G_two_of_one_shape (hr.mono (by omega)) rfl (da_cons (de_var 0) da_nil)))
  (ds_cons (ds_if (dt_cmp od_isNotN (de_var 1) de_non)
    (ds_one (ds_ret (de_op od_add (de_tup (da_cons de_str da_nil)) (de_var 1))))
    ds_nil)
  (ds_cons (ds_set nd (de_call G_ring_of_rules (hr.mono (by omega)) rfl (da_cons (de_var 0) da_nil)))
  (ds_cons (ds_if (dt_cmp od_isNotN (de_var 2) de_non)
    (ds_one (ds_ret (de_tup (da_cons de_str (da_cons (de_var 2) da_nil)))))
    ds_nil)
  (ds_one (ds_ret de_non))))))
abbrev s_is_number : Stmt := top 9
abbrev n_is_number : List Str := ["rules", "thing"]
theorem sc_is_number : FnScope n_is_number ["rules", "thing"] (defScope s_is_number) := ⟨rfl, rfl, rfl, by decide +kernel, rfl, by decide +kernel, by decide +kernel⟩
theorem ok_is_number (T : Txt mg) {f : Addr} {fd : FuncData} (F : Fun K "is_number" "is_number" s_is_number f fd) (hf : mg "is_number" = some (.ref f)) (hb : Binds K fd ["rules", "thing"] []) {k : Nat} {sp : DSp}
    (sem : ∀ ds S R, sp ds S R → ds.length = 2 ∧ w_is_number (endsD R) (startD 2 ds) S) : FnD P w K mg base (k + 1) "is_number" sp := by
  refine fn_mk (N := n_is_number) (ps := ["rules", "thing"]) (ws := w_is_number) F sc_is_number hf hb (by decide) (fun ds S R h => (sem ds S R h).1) (fun cdv A outer s H E hr => ?_) (fun ds S R h => (sem ds S R h).2)
  have nd : (n_is_number).Nodup := sc_is_number.nd
  have hu := room_units hr
  unfold w_is_number
  exact (ds_one (ds_ret (de_and (de_isi T.b_isinstance rfl T.b_int rfl (by decide +kernel) (de_var 1)) (de_and (de_not (de_isi T.b_isinstance rfl T.b_bool rfl (by decide +kernel) (de_var 1))) (de_one (de_chain od_le (od_lt hu) de_int (de_var 1) (de_callB cd_len T.b_len rfl (by decide +kernel) (da_cons (de_var 0) da_nil))))))))
abbrev s_is_two : Stmt := top 10
abbrev n_is_two : List Str := ["rules", "i", "j", "grouped"]
theorem sc_is_two : FnScope n_is_two ["rules", "i", "j"] (defScope s_is_two) := ⟨rfl, rfl, rfl, by decide +kernel, rfl, by decide +kernel, by decide +kernel⟩
theorem ok_is_two (T : Txt mg) {f : Addr} {fd : FuncData} (F : Fun K "is_two" "is_two" s_is_two f fd) (hf : mg "is_two" = some (.ref f)) (hb : Binds K fd ["rules", "i", "j"] []) {k : Nat} {sp_is_number sp_rule_shape : DSp}
    (G_is_number : FnD P w K mg base k "is_number" sp_is_number)
    (G_rule_shape : FnD P w K mg base k "rule_shape" sp_rule_shape) {sp : DSp}
    (sem : ∀ ds S R, sp ds S R → ds.length = 3 ∧ w_is_two sp_is_number sp_rule_shape (endsD R) (startD 4 ds) S) : FnD P w K mg base (k + 1) "is_two" sp := by
  refine fn_mk (N := n_is_two) (ps := ["rules", "i", "j"]) (ws := w_is_two sp_is_number sp_rule_shape) F sc_is_two hf hb (by decide) (fun ds S R h => (sem ds S R h).1) (fun cdv A outer s H E hr => ?_) (fun ds S R h => (sem ds S R h).2)
  have nd : (n_is_two).Nodup := sc_is_two.nd
  have hu := room_units hr
  unfold w_is_two
  exact (ds_cons (ds_if (PW.pt (dw_or (dt_not (dt_truth (de_call G_is_number (hr.mono (by omega)) rfl (da_cons (de_var 0) (da_cons (de_var 1) da_nil))))) (dw_or (dt_not (dt_truth (de_call G_is_number (hr.mono (by omega)) rfl (da_cons (de_var 0) (da_cons (de_var 2) da_nil))))) (dw_or1 (dt_cmp od_ge (de_var 1) (de_var 2))))))
    (ds_one (ds_ret de_bl))
    ds_nil)
  (ds_cons (ds_set nd (de_or (de_cmp od_isNotN (de_ix (od_ix hu) (de_ix (od_ix hu) (de_var 0) (de_var 1)) de_int) de_non) (de_one (de_cmp od_isNotN (de_ix (od_ix hu) (de_ix (od_ix hu) (de_var 0) (de_var 2)) de_int) de_non))))
  (ds_one (ds_ret (de_and (de_var 3) (de_one (de_cmp (od_eq hu) (de_call G_rule_shape (hr.mono (by omega)) rfl (da_cons (de_ix (od_ix hu) (de_var 0) (de_var 1)) da_nil)) (de_call G_rule_shape (hr.mono (by omega)) rfl (da_cons (de_ix (od_ix hu) (de_var 0) (de_var 2)) da_nil)))))))))
abbrev s_is_ring : Stmt := top 11
abbrev n_is_ring : List Str := ["rules", "numbers", "k", "greatest", "at", "own", "steps", "shape", "step"]
theorem sc_is_ring : FnScope n_is_ring ["rules", "numbers"] (defScope s_is_ring) := ⟨rfl, rfl, rfl, by decide +kernel, rfl, by decide +kernel, by decide +kernel⟩
theorem ok_is_ring (T : Txt mg) {f : Addr} {fd : FuncData} (F : Fun K "is_ring" "is_ring" s_is_ring f fd) (hf : mg "is_ring" = some (.ref f)) (hb : Binds K fd ["rules", "numbers"] []) {k : Nat} {sp_is_number sp_rule_shape sp_looked_at : DSp}
    (G_is_number : FnD P w K mg base k "is_number" sp_is_number)
    (G_rule_shape : FnD P w K mg base k "rule_shape" sp_rule_shape)
    (G_looked_at : FnD P w K mg base k "looked_at" sp_looked_at) {sp : DSp}
    (sem : ∀ ds S R, sp ds S R → ds.length = 2 ∧ w_is_ring sp_is_number sp_rule_shape sp_looked_at (endsD R) (startD 9 ds) S) : FnD P w K mg base (k + 1) "is_ring" sp := by
  refine fn_mk (N := n_is_ring) (ps := ["rules", "numbers"]) (ws := w_is_ring sp_is_number sp_rule_shape sp_looked_at) F sc_is_ring hf hb (by decide) (fun ds S R h => (sem ds S R h).1) (fun cdv A outer s H E hr => ?_) (fun ds S R h => (sem ds S R h).2)
  have nd : (n_is_ring).Nodup := sc_is_ring.nd
  have hu := room_units hr
  unfold w_is_ring
  exact (ds_cons (ds_if (PW.pt (dw_or (dt_not (dt_truth (de_isi T.b_isinstance rfl T.b_tuple rfl (by decide +kernel) (de_var 1)))) (dw_or1 (dt_cmp (od_eq hu) (de_callB cd_len T.b_len rfl (by decide +kernel) (da_cons (de_var 1) da_nil)) de_int))))
    (ds_one (ds_ret de_bl))
    ds_nil)
  (ds_cons (ds_if (PW.pt (dw_or (dt_not (dt_truth (de_callB (cd_all rfl) T.b_all rfl (by decide +kernel) (da_cons (de_lc (own := [("k", 2)]) (g := (gName 2)) (own_name (by decide)) rfl nd (di_any (de_var 1)) (blkOk_by (own := [("k", 2)]) (N := n_is_ring) (sc := (defScope s_is_ring)) (by decide +kernel)) (fun _ _ _ _ _ => (pg_nm nd)) (fun _ _ _ _ _ => dts_nil) (fun _ _ _ _ _ => (de_call G_is_number (hr.mono (by omega)) rfl (da_cons (de_var 0) (da_cons (de_var 2) da_nil))))) da_nil)))) (dw_or1 (dt_cmp (od_lt hu) (de_setLn rfl rfl T.b_len rfl T.b_set (de_var 1)) (de_callB cd_len T.b_len rfl (by decide +kernel) (da_cons (de_var 1) da_nil))))))
    (ds_one (ds_ret de_bl))
    ds_nil)
  (ds_cons (ds_set nd de_int)
  (ds_cons (ds_for PassesOwn.never rfl (di_enumA T.b_enumerate rfl (da_cons (de_var 1) da_nil)) (dg_tup rfl (dgs_cons (dg_name nd) (dgs_cons (dg_name nd) dgs_nil)))
    (ds_cons (ds_set nd (de_call G_rule_shape (hr.mono (by omega)) rfl (da_cons (de_ix (od_ix hu) (de_var 0) (de_ix (od_ix hu) (de_var 1) (de_op od_sub (de_var 4) de_int))) da_nil)))
  (ds_cons (ds_setLc (own := [("shape", 7), ("step", 8)]) (g := (gTup K 2 (gCons (gName 7) (gCons (gName 8) gNil)))) (own_tup2 (by decide) (by decide)) (i := 6) rfl nd rfl rfl (sw_true rfl rfl rfl (by decide +kernel)) (di_any (de_call G_looked_at (hr.mono (by omega)) rfl (da_cons (de_ix (od_ix hu) (de_var 0) (de_var 2)) da_nil))) (blkOk_by (own := [("shape", 7), ("step", 8)]) (N := n_is_ring) (sc := (defScope s_is_ring)) (by decide +kernel)) (fun _ _ _ _ _ => (pg_tup rfl (pgs_cons (pg_nm nd) (pgs_cons (pg_nm nd) pgs_nil)))) (fun _ _ _ _ _ => (dts_one (dt_cmp (od_eq hu) (de_var 7) (de_var 5)))) (fun _ _ _ _ _ => (de_var 8)))
  (ds_cons (ds_if (dt_cmp (od_eq hu) (de_var 6) (de_lst da_nil))
    (ds_one (ds_ret de_bl))
    ds_nil)
  (ds_one (ds_set nd (de_callB (cd_maxL rfl) T.b_max rfl (by decide +kernel) (da_cons (de_op od_add (de_lst (da_cons (de_var 3) da_nil)) (de_var 6)) da_nil))))))))
  (ds_one (ds_ret (de_cmp od_gt (de_var 3) de_int)))))))
abbrev s_is_bar : Stmt := top 12
abbrev n_is_bar : List Str := ["rules", "thing"]
theorem sc_is_bar : FnScope n_is_bar ["rules", "thing"] (defScope s_is_bar) := ⟨rfl, rfl, rfl, by decide +kernel, rfl, by decide +kernel, by decide +kernel⟩
theorem ok_is_bar (T : Txt mg) {f : Addr} {fd : FuncData} (F : Fun K "is_bar" "is_bar" s_is_bar f fd) (hf : mg "is_bar" = some (.ref f)) (hb : Binds K fd ["rules", "thing"] []) {k : Nat} {sp_is_two sp_is_ring : DSp}
    (G_is_two : FnD P w K mg base k "is_two" sp_is_two)
    (G_is_ring : FnD P w K mg base k "is_ring" sp_is_ring) {sp : DSp}
    (sem : ∀ ds S R, sp ds S R → ds.length = 2 ∧ w_is_bar sp_is_two sp_is_ring (endsD R) (startD 2 ds) S) : FnD P w K mg base (k + 1) "is_bar" sp := by
  refine fn_mk (N := n_is_bar) (ps := ["rules", "thing"]) (ws := w_is_bar sp_is_two sp_is_ring) F sc_is_bar hf hb (by decide) (fun ds S R h => (sem ds S R h).1) (fun cdv A outer s H E hr => ?_) (fun ds S R h => (sem ds S R h).2)
  have nd : (n_is_bar).Nodup := sc_is_bar.nd
  have hu := room_units hr
  unfold w_is_bar
  exact (ds_cons (ds_if (PW.pt (dw_or (dt_not (dt_truth (de_isi T.b_isinstance rfl T.b_tuple rfl (by decide +kernel) (de_var 1)))) (dw_or1 (dt_cmp (od_lt hu) (de_callB cd_len T.b_len rfl (by decide +kernel) (da_cons (de_var 1) da_nil)) de_int))))
    (ds_one (ds_ret de_bl))
    ds_nil)
  (ds_cons (ds_if (PW.pt (dw_and (dt_cmp (od_eq hu) (de_ix (od_ix hu) (de_var 1) de_int) de_str) (dw_and1 (dt_cmp (od_eq hu) (de_callB cd_len T.b_len rfl (by decide +kernel) (da_cons (de_var 1) da_nil)) de_int))))
    (ds_one (ds_ret (de_call G_is_two (hr.mono (by omega)) rfl (da_cons (de_var 0) (da_cons (de_ix (od_ix hu) (de_var 1) de_int) (da_cons (de_ix (od_ix hu) (de_var 1) de_int) da_nil))))))
    ds_nil)
  (ds_one (ds_ret (de_and (de_cmp (od_eq hu) (de_ix (od_ix hu) (de_var 1) de_int) de_str) (de_and (de_cmp (od_eq hu) (de_callB cd_len T.b_len rfl (by decide +kernel) (da_cons (de_var 1) da_nil)) de_int) (de_one (de_call G_is_ring (hr.mono (by omega)) rfl (da_cons (de_var 0) (da_cons (de_ix (od_ix hu) (de_var 1) de_int) da_nil))))))))))
abbrev s_law_cell_at : Stmt := top 14
abbrev n_law_cell_at : List Str := ["script", "k"]
theorem sc_law_cell_at : FnScope n_law_cell_at ["script", "k"] (defScope s_law_cell_at) := ⟨rfl, rfl, rfl, by decide +kernel, rfl, by decide +kernel, by decide +kernel⟩
theorem ok_law_cell_at (T : Txt mg) {f : Addr} {fd : FuncData} (F : Fun K "_law_cell_at" "_law_cell_at" s_law_cell_at f fd) (hf : mg "_law_cell_at" = some (.ref f)) (hb : Binds K fd ["script", "k"] []) {k : Nat} {sp : DSp}
    (sem : ∀ ds S R, sp ds S R → ds.length = 2 ∧ w_law_cell_at (endsD R) (startD 2 ds) S) : FnD P w K mg base (k + 1) "_law_cell_at" sp := by
  refine fn_mk (N := n_law_cell_at) (ps := ["script", "k"]) (ws := w_law_cell_at) F sc_law_cell_at hf hb (by decide) (fun ds S R h => (sem ds S R h).1) (fun cdv A outer s H E hr => ?_) (fun ds S R h => (sem ds S R h).2)
  have nd : (n_law_cell_at).Nodup := sc_law_cell_at.nd
  have hu := room_units hr
  unfold w_law_cell_at
  exact (ds_cons (ds_if (dt_cmp (od_lt hu) (de_var 1) (de_callB cd_len T.b_len rfl (by decide +kernel) (da_cons (de_var 0) da_nil)))
    (ds_one (ds_ret (de_ix (od_ix hu) (de_var 0) (de_var 1))))
    ds_nil)
  (ds_one (ds_ret de_int)))
abbrev s_law_left : Stmt := top 15
abbrev n_law_left : List Str := ["script", "k", "cell", "seed"]
theorem sc_law_left : FnScope n_law_left ["script", "k"] (defScope s_law_left) := ⟨rfl, rfl, rfl, by decide +kernel, rfl, by decide +kernel, by decide +kernel⟩
theorem ok_law_left (T : Txt mg) {f : Addr} {fd : FuncData} (F : Fun K "_law_left" "_law_left" s_law_left f fd) (hf : mg "_law_left" = some (.ref f)) (hb : Binds K fd ["script", "k"] []) {k : Nat} {sp_law_cell_at : DSp}
    (G_law_cell_at : FnD P w K mg base k "_law_cell_at" sp_law_cell_at) {sp : DSp}
    (sem : ∀ ds S R, sp ds S R → ds.length = 2 ∧ w_law_left sp_law_cell_at (endsD R) (startD 4 ds) S) : FnD P w K mg base (k + 1) "_law_left" sp := by
  refine fn_mk (N := n_law_left) (ps := ["script", "k"]) (ws := w_law_left sp_law_cell_at) F sc_law_left hf hb (by decide) (fun ds S R h => (sem ds S R h).1) (fun cdv A outer s H E hr => ?_) (fun ds S R h => (sem ds S R h).2)
  have nd : (n_law_left).Nodup := sc_law_left.nd
  have hu := room_units hr
  unfold w_law_left
  exact (ds_cons (ds_set nd (de_call G_law_cell_at (hr.mono (by omega)) rfl (da_cons (de_var 0) (da_cons (de_var 1) da_nil))))
  (ds_cons (ds_set nd (de_op od_mod (de_op od_mul (de_op od_add (de_op od_add (de_op od_mod (de_var 2) de_int) (de_op od_mul (de_op od_mul de_int (de_var 1)) (de_var 1))) de_int) de_int) de_int))
  (ds_cons (ds_if (dt_cmp (od_eq hu) (de_op od_mod (de_call G_law_cell_at (hr.mono (by omega)) rfl (da_cons (de_var 0) (da_cons de_int da_nil))) de_int) de_int)
    (ds_one (ds_set nd de_int))
    ds_nil)
  (ds_one (ds_ret (de_lst (da_cons (de_op od_mod (de_var 2) (de_op od_pow de_int de_int)) (da_cons (de_var 3) da_nil))))))))
abbrev s_law_pick : Stmt := top 16
abbrev n_law_pick : List Str := ["left", "many", "digit"]
theorem sc_law_pick : FnScope n_law_pick ["left", "many"] (defScope s_law_pick) := ⟨rfl, rfl, rfl, by decide +kernel, rfl, by decide +kernel, by decide +kernel⟩
theorem ok_law_pick (T : Txt mg) {f : Addr} {fd : FuncData} (F : Fun K "_law_pick" "_law_pick" s_law_pick f fd) (hf : mg "_law_pick" = some (.ref f)) (hb : Binds K fd ["left", "many"] []) {k : Nat} {sp : DSp}
    (sem : ∀ ds S R, sp ds S R → ds.length = 2 ∧ w_law_pick (endsD R) (startD 3 ds) S) : FnD P w K mg base (k + 1) "_law_pick" sp := by
  refine fn_mk (N := n_law_pick) (ps := ["left", "many"]) (ws := w_law_pick) F sc_law_pick hf hb (by decide) (fun ds S R h => (sem ds S R h).1) (fun cdv A outer s H E hr => ?_) (fun ds S R h => (sem ds S R h).2)
  have nd : (n_law_pick).Nodup := sc_law_pick.nd
  have hu := room_units hr
  unfold w_law_pick
  exact (ds_cons (ds_if (dt_cmp od_gt (de_ix (od_ix hu) (de_var 0) de_int) de_int)
    (ds_cons (ds_set nd (de_op od_mod (de_ix (od_ix hu) (de_var 0) de_int) (de_var 1)))
  (ds_cons (ds_asg (de_op od_div (de_ix (od_ix hu) (de_var 0) de_int) (de_var 1)) (dg_sub (de_var 0) de_int (sd_set hu)))
  (ds_one (ds_ret (de_var 2)))))
    ds_nil)
  (ds_cons (ds_asg (de_op od_mod (de_op od_add (de_op od_mul (de_ix (od_ix hu) (de_var 0) de_int) de_int) de_int) de_int) (dg_sub (de_var 0) de_int (sd_set hu)))
  (ds_one (ds_ret (de_op od_mod (de_op od_mod (de_op od_mul (de_ix (od_ix hu) (de_var 0) de_int) (de_ix (od_ix hu) (de_var 0) de_int)) de_int) (de_var 1))))))
abbrev s_law_words : Stmt := top 17
abbrev n_law_words : List Str := ["left", "letters", "first", "step", "words", "k"]
theorem sc_law_words : FnScope n_law_words ["left"] (defScope s_law_words) := ⟨rfl, rfl, rfl, by decide +kernel, rfl, by decide +kernel, by decide +kernel⟩
theorem ok_law_words (T : Txt mg) {f : Addr} {fd : FuncData} (F : Fun K "_law_words" "_law_words" s_law_words f fd) (hf : mg "_law_words" = some (.ref f)) (hb : Binds K fd ["left"] []) {k : Nat} {sp_law_pick : DSp}
    (G_law_pick : FnD P w K mg base k "_law_pick" sp_law_pick) {sp : DSp}
    (sem : ∀ ds S R, sp ds S R → ds.length = 1 ∧ w_law_words sp_law_pick (endsD R) (startD 6 ds) S) : FnD P w K mg base (k + 1) "_law_words" sp := by
  refine fn_mk (N := n_law_words) (ps := ["left"]) (ws := w_law_words sp_law_pick) F sc_law_words hf hb (by decide) (fun ds S R h => (sem ds S R h).1) (fun cdv A outer s H E hr => ?_) (fun ds S R h => (sem ds S R h).2)
  have nd : (n_law_words).Nodup := sc_law_words.nd
  have hu := room_units hr
  unfold w_law_words
  exact (ds_cons (ds_set nd de_str)
  (ds_cons (ds_set nd (de_call G_law_pick (hr.mono (by omega)) rfl (da_cons (de_var 0) (da_cons de_int da_nil))))
  (ds_cons (ds_set nd (de_ix (od_ix hu) (de_lst (da_cons de_int (da_cons de_int (da_cons de_int (da_cons de_int (da_cons de_int (da_cons de_int da_nil))))))) (de_call G_law_pick (hr.mono (by omega)) rfl (da_cons (de_var 0) (da_cons de_int da_nil)))))
  (ds_cons (ds_set nd (de_lst da_nil))
  (ds_cons (ds_for PassesOwn.never rfl (di_range1 T.b_range rfl (da_cons de_int da_nil)) (dg_name nd)
    (ds_one (ds_expr (de_mt PySem.F.plainAttrs_list PySem.F.slot_list_append PySem.F.type_list_append md_append (de_var 4) (da_cons (de_op od_add (de_ix (od_ix hu) (de_var 1) (de_op od_mod (de_op od_add (de_var 2) (de_op od_mul (de_var 3) (de_var 5))) de_int)) (de_ix (od_ix hu) (de_lst (da_cons de_str (da_cons de_str (da_cons de_str (da_cons de_str da_nil))))) (de_call G_law_pick (hr.mono (by omega)) rfl (da_cons (de_var 0) (da_cons de_int da_nil))))) da_nil)))))
  (ds_one (ds_ret (de_var 4))))))))
abbrev s_law_constants : Stmt := top 18
abbrev n_law_constants : List Str := ["left", "words", "number", "far"]
theorem sc_law_constants : FnScope n_law_constants ["left", "words"] (defScope s_law_constants) := ⟨rfl, rfl, rfl, by decide +kernel, rfl, by decide +kernel, by decide +kernel⟩
theorem ok_law_constants (T : Txt mg) {f : Addr} {fd : FuncData} (F : Fun K "_law_constants" "_law_constants" s_law_constants f fd) (hf : mg "_law_constants" = some (.ref f)) (hb : Binds K fd ["left", "words"] []) {k : Nat} {sp_law_pick : DSp}
    (G_law_pick : FnD P w K mg base k "_law_pick" sp_law_pick) {sp : DSp}
    (sem : ∀ ds S R, sp ds S R → ds.length = 2 ∧ w_law_constants sp_law_pick (endsD R) (startD 4 ds) S) : FnD P w K mg base (k + 1) "_law_constants" sp := by
  refine fn_mk (N := n_law_constants) (ps := ["left", "words"]) (ws := w_law_constants sp_law_pick) F sc_law_constants hf hb (by decide) (fun ds S R h => (sem ds S R h).1) (fun cdv A outer s H E hr => ?_) (fun ds S R h => (sem ds S R h).2)
  have nd : (n_law_constants).Nodup := sc_law_constants.nd
  have hu := room_units hr
  unfold w_law_constants
  exact (ds_cons (ds_set nd (de_op od_sub (de_call G_law_pick (hr.mono (by omega)) rfl (da_cons (de_var 0) (da_cons de_int da_nil))) de_int))
  (ds_cons (ds_set nd (de_ix (od_ix hu) (de_lst (da_cons de_int (da_cons (de_neg (de_op od_pow de_int de_int)) (da_cons (de_op od_add (de_op od_pow de_int de_int) de_int) da_nil)))) (de_call G_law_pick (hr.mono (by omega)) rfl (da_cons (de_var 0) (da_cons de_int da_nil)))))
  (ds_one (ds_ret (de_lst (da_cons (de_var 2) (da_cons (de_var 3) (da_cons (de_tup (da_cons (de_ix (od_ix hu) (de_var 1) de_int) da_nil)) (da_cons (de_tup (da_cons (de_ix (od_ix hu) (de_var 1) de_int) (da_cons (de_var 2) da_nil))) da_nil)))))))))
abbrev s_law_fresh : Stmt := top 19
abbrev n_law_fresh : List Str := ["known"]
theorem sc_law_fresh : FnScope n_law_fresh ["known"] (defScope s_law_fresh) := ⟨rfl, rfl, rfl, by decide +kernel, rfl, by decide +kernel, by decide +kernel⟩
theorem ok_law_fresh (T : Txt mg) {f : Addr} {fd : FuncData} (F : Fun K "_law_fresh" "_law_fresh" s_law_fresh f fd) (hf : mg "_law_fresh" = some (.ref f)) (hb : Binds K fd ["known"] []) {k : Nat} {sp : DSp}
    (sem : ∀ ds S R, sp ds S R → ds.length = 1 ∧ w_law_fresh (endsD R) (startD 1 ds) S) : FnD P w K mg base (k + 1) "_law_fresh" sp := by
  refine fn_mk (N := n_law_fresh) (ps := ["known"]) (ws := w_law_fresh) F sc_law_fresh hf hb (by decide) (fun ds S R h => (sem ds S R h).1) (fun cdv A outer s H E hr => ?_) (fun ds S R h => (sem ds S R h).2)
  have nd : (n_law_fresh).Nodup := sc_law_fresh.nd
  have hu := room_units hr
  unfold w_law_fresh
  exact (ds_cons (ds_expr (de_mt PySem.F.plainAttrs_list PySem.F.slot_list_append PySem.F.type_list_append md_append (de_var 0) (da_cons (de_ix (od_ix hu) (de_lst (da_cons de_str (da_cons de_str (da_cons de_str (da_cons de_str (da_cons de_str (da_cons de_str (da_cons de_str (da_cons de_str (da_cons de_str (da_cons de_str da_nil))))))))))) (de_callB cd_len T.b_len rfl (by decide +kernel) (da_cons (de_var 0) da_nil))) da_nil)))
  (ds_one (ds_ret (de_ix (od_ix hu) (de_var 0) (de_neg de_int)))))
abbrev s_law_group : Stmt := top 20
abbrev n_law_group : List Str := ["left", "known", "way"]
theorem sc_law_group : FnScope n_law_group ["left", "known"] (defScope s_law_group) := ⟨rfl, rfl, rfl, by decide +kernel, rfl, by decide +kernel, by decide +kernel⟩
theorem ok_law_group (T : Txt mg) {f : Addr} {fd : FuncData} (F : Fun K "_law_group" "_law_group" s_law_group f fd) (hf : mg "_law_group" = some (.ref f)) (hb : Binds K fd ["left", "known"] []) {k : Nat} {sp_law_pick : DSp}
    (G_law_pick : FnD P w K mg base k "_law_pick" sp_law_pick) {sp : DSp}
    (sem : ∀ ds S R, sp ds S R → ds.length = 2 ∧ w_law_group sp_law_pick (endsD R) (startD 3 ds) S) : FnD P w K mg base (k + 1) "_law_group" sp := by
  refine fn_mk (N := n_law_group) (ps := ["left", "known"]) (ws := w_law_group sp_law_pick) F sc_law_group hf hb (by decide) (fun ds S R h => (sem ds S R h).1) (fun cdv A outer s H E hr => ?_) (fun ds S R h => (sem ds S R h).2)
  have nd : (n_law_group).Nodup := sc_law_group.nd
  have hu := room_units hr
  unfold w_law_group
  exact (ds_cons (ds_set nd (de_call G_law_pick (hr.mono (by omega)) rfl (da_cons (de_var 0) (da_cons de_int da_nil))))
  (ds_cons (ds_if (PW.pt (dw_or (dt_cmp (od_eq hu) (de_var 2) de_int) (dw_or1 (dt_cmp (od_eq hu) (de_var 1) (de_lst da_nil)))))
    (ds_one (ds_ret (de_tup (da_cons de_str da_nil))))
    ds_nil)
  (ds_one (ds_ret (de_tup (da_cons (de_ix (od_ix hu) (de_lst (da_cons de_str (da_cons de_str (da_cons de_str (da_cons de_str da_nil))))) (de_var 2)) (da_cons (de_ix (od_ix hu) (de_var 1) (de_call G_law_pick (hr.mono (by omega)) rfl (da_cons (de_var 0) (da_cons (de_callB cd_len T.b_len rfl (by decide +kernel) (da_cons (de_var 1) da_nil)) da_nil)))) da_nil)))))))
abbrev s_law_any_pattern : Stmt := top 21
abbrev n_law_any_pattern : List Str := ["left", "known", "constants", "fresh", "way"]
theorem sc_law_any_pattern : FnScope n_law_any_pattern ["left", "known", "constants", "fresh"] (defScope s_law_any_pattern) := ⟨rfl, rfl, rfl, by decide +kernel, rfl, by decide +kernel, by decide +kernel⟩
theorem ok_law_any_pattern (T : Txt mg) {f : Addr} {fd : FuncData} (F : Fun K "_law_any_pattern" "_law_any_pattern" s_law_any_pattern f fd) (hf : mg "_law_any_pattern" = some (.ref f)) (hb : Binds K fd ["left", "known", "constants", "fresh"] []) {k : Nat} {sp_law_pick sp_law_fresh : DSp}
    (G_law_pick : FnD P w K mg base k "_law_pick" sp_law_pick)
    (G_law_fresh : FnD P w K mg base k "_law_fresh" sp_law_fresh) {sp : DSp}
    (sem : ∀ ds S R, sp ds S R → ds.length = 4 ∧ w_law_any_pattern sp_law_pick sp_law_fresh (endsD R) (startD 5 ds) S) : FnD P w K mg base (k + 1) "_law_any_pattern" sp := by
  refine fn_mk (N := n_law_any_pattern) (ps := ["left", "known", "constants", "fresh"]) (ws := w_law_any_pattern sp_law_pick sp_law_fresh) F sc_law_any_pattern hf hb (by decide) (fun ds S R h => (sem ds S R h).1) (fun cdv A outer s H E hr => ?_) (fun ds S R h => (sem ds S R h).2)
  have nd : (n_law_any_pattern).Nodup := sc_law_any_pattern.nd
  have hu := room_units hr
  unfold w_law_any_pattern
  exact (ds_cons (ds_set nd (de_call G_law_pick (hr.mono (by omega)) rfl (da_cons (de_var 0) (da_cons de_int da_nil))))
  (ds_cons (ds_if (PW.pt (dw_and (dt_cmp (od_lt hu) (de_var 4) de_int) (dw_and1 (dt_cmp (od_ne hu) (de_var 1) (de_lst da_nil)))))
    (ds_one (ds_ret (de_ix (od_ix hu) (de_var 1) (de_call G_law_pick (hr.mono (by omega)) rfl (da_cons (de_var 0) (da_cons (de_callB cd_len T.b_len rfl (by decide +kernel) (da_cons (de_var 1) da_nil)) da_nil))))))
    ds_nil)
  (ds_cons (ds_if (PW.pt (dw_and (dt_cmp (od_lt hu) (de_var 4) de_int) (dw_and (dt_truth (de_var 3)) (dw_and1 (dt_cmp (od_lt hu) (de_callB cd_len T.b_len rfl (by decide +kernel) (da_cons (de_var 1) da_nil)) de_int)))))
    (ds_one (ds_ret (de_call G_law_fresh (hr.mono (by omega)) rfl (da_cons (de_var 1) da_nil))))
    ds_nil)
  (ds_one (ds_ret (de_ix (od_ix hu) (de_var 2) (de_call G_law_pick (hr.mono (by omega)) rfl (da_cons (de_var 0) (da_cons de_int da_nil)))))))))
abbrev s_law_any_atom : Stmt := top 22
abbrev n_law_any_atom : List Str := ["left", "shape", "known", "constants", "fresh", "k"]
theorem sc_law_any_atom : FnScope n_law_any_atom ["left", "shape", "known", "constants", "fresh"] (defScope s_law_any_atom) := ⟨rfl, rfl, rfl, by decide +kernel, rfl, by decide +kernel, by decide +kernel⟩
theorem ok_law_any_atom (T : Txt mg) {f : Addr} {fd : FuncData} (F : Fun K "_law_any_atom" "_law_any_atom" s_law_any_atom f fd) (hf : mg "_law_any_atom" = some (.ref f)) (hb : Binds K fd ["left", "shape", "known", "constants", "fresh"] []) {k : Nat} {sp_law_any_pattern : DSp}
    (G_law_any_pattern : FnD P w K mg base k "_law_any_pattern" sp_law_any_pattern) {sp : DSp}
    (sem : ∀ ds S R, sp ds S R → ds.length = 5 ∧ w_law_any_atom sp_law_any_pattern (endsD R) (startD 6 ds) S) : FnD P w K mg base (k + 1) "_law_any_atom" sp := by
  refine fn_mk (N := n_law_any_atom) (ps := ["left", "shape", "known", "constants", "fresh"]) (ws := w_law_any_atom sp_law_any_pattern) F sc_law_any_atom hf hb (by decide) (fun ds S R h => (sem ds S R h).1) (fun cdv A outer s H E hr => ?_) (fun ds S R h => (sem ds S R h).2)
  have nd : (n_law_any_atom).Nodup := sc_law_any_atom.nd
  have hu := room_units hr
  unfold w_law_any_atom
  exact (ds_one (ds_ret (de_op od_add (de_tup (da_cons (de_ix (od_ix hu) (de_var 1) de_int) da_nil)) (de_callT cd_tuple T.b_tuple rfl (by decide +kernel) (da_cons (de_lc (own := [("k", 5)]) (g := (gName 5)) (own_name (by decide)) rfl nd (di_range1 T.b_range rfl (da_cons (de_ix (od_ix hu) (de_var 1) de_int) da_nil)) (blkOk_by (own := [("k", 5)]) (N := n_law_any_atom) (sc := (defScope s_law_any_atom)) (by decide +kernel)) (fun _ _ _ _ _ => (pg_nm nd)) (fun _ _ _ _ _ => dts_nil) (fun _ _ _ _ _ => (de_call G_law_any_pattern (hr.mono (by omega)) rfl (da_cons (de_var 0) (da_cons (de_var 2) (da_cons (de_var 3) (da_cons (de_var 4) da_nil))))))) da_nil)))))
abbrev s_law_any_part : Stmt := top 23
abbrev n_law_any_part : List Str := ["left", "shapes", "known", "constants", "way", "shape", "one", "other"]
theorem sc_law_any_part : FnScope n_law_any_part ["left", "shapes", "known", "constants"] (defScope s_law_any_part) := ⟨rfl, rfl, rfl, by decide +kernel, rfl, by decide +kernel, by decide +kernel⟩
theorem ok_law_any_part (T : Txt mg) {f : Addr} {fd : FuncData} (F : Fun K "_law_any_part" "_law_any_part" s_law_any_part f fd) (hf : mg "_law_any_part" = some (.ref f)) (hb : Binds K fd ["left", "shapes", "known", "constants"] []) {k : Nat} {sp_law_pick sp_law_any_atom sp_law_any_pattern sp_law_fresh : DSp}
    (G_law_pick : FnD P w K mg base k "_law_pick" sp_law_pick)
    (G_law_any_atom : FnD P w K mg base k "_law_any_atom" sp_law_any_atom)
    (G_law_any_pattern : FnD P w K mg base k "_law_any_pattern" sp_law_any_pattern)
    (G_law_fresh : FnD P w K mg base k "_law_fresh" sp_law_fresh) {sp : DSp}
    (sem : ∀ ds S R, sp ds S R → ds.length = 4 ∧ w_law_any_part sp_law_pick sp_law_any_atom sp_law_any_pattern sp_law_fresh (endsD R) (startD 8 ds) S) : FnD P w K mg base (k + 1) "_law_any_part" sp := by
  refine fn_mk (N := n_law_any_part) (ps := ["left", "shapes", "known", "constants"]) (ws := w_law_any_part sp_law_pick sp_law_any_atom sp_law_any_pattern sp_law_fresh) F sc_law_any_part hf hb (by decide) (fun ds S R h => (sem ds S R h).1) (fun cdv A outer s H E hr => ?_) (fun ds S R h => (sem ds S R h).2)
  have nd : (n_law_any_part).Nodup := sc_law_any_part.nd
  have hu := room_units hr
  unfold w_law_any_part
  exact (ds_cons (ds_set nd (de_call G_law_pick (hr.mono (by omega)) rfl (da_cons (de_var 0) (da_cons de_int da_nil))))
  (ds_cons (ds_set nd (de_ix (od_ix hu) (de_var 1) (de_call G_law_pick (hr.mono (by omega)) rfl (da_cons (de_var 0) (da_cons (de_callB cd_len T.b_len rfl (by decide +kernel) (da_cons (de_var 1) da_nil)) da_nil)))))
  (ds_cons (ds_if (dt_cmp (od_lt hu) (de_var 4) de_int)
    (ds_one (ds_ret (de_tup (da_cons de_str (da_cons (de_call G_law_any_atom (hr.mono (by omega)) rfl (da_cons (de_var 0) (da_cons (de_var 5) (da_cons (de_var 2) (da_cons (de_var 3) (da_cons de_bl da_nil)))))) da_nil)))))
    ds_nil)
  (ds_cons (ds_if (dt_cmp (od_lt hu) (de_var 4) de_int)
    (ds_one (ds_ret (de_tup (da_cons de_str (da_cons (de_call G_law_any_atom (hr.mono (by omega)) rfl (da_cons (de_var 0) (da_cons (de_var 5) (da_cons (de_var 2) (da_cons (de_var 3) (da_cons de_bl da_nil)))))) da_nil)))))
    ds_nil)
  (ds_cons (ds_set nd (de_call G_law_any_pattern (hr.mono (by omega)) rfl (da_cons (de_var 0) (da_cons (de_var 2) (da_cons (de_var 3) (da_cons de_bl da_nil))))))
  (ds_cons (ds_set nd (de_call G_law_any_pattern (hr.mono (by omega)) rfl (da_cons (de_var 0) (da_cons (de_var 2) (da_cons (de_var 3) (da_cons de_bl da_nil))))))
  (ds_cons (ds_if (PW.pt (dw_or (dt_cmp (od_eq hu) (de_var 4) de_int) (dw_or1 (dt_cmp od_gt (de_callB cd_len T.b_len rfl (by decide +kernel) (da_cons (de_var 2) da_nil)) de_int))))
    (ds_one (ds_ret (de_tup (da_cons (de_ix (od_ix hu) (de_lst (da_cons de_str (da_cons de_str da_nil))) (de_call G_law_pick (hr.mono (by omega)) rfl (da_cons (de_var 0) (da_cons de_int da_nil)))) (da_cons (de_var 6) (da_cons (de_var 7) da_nil))))))
    ds_nil)
  (ds_one (ds_ret (de_tup (da_cons de_str (da_cons (de_call G_law_fresh (hr.mono (by omega)) rfl (da_cons (de_var 2) da_nil)) (da_cons (de_ix (od_ix hu) (de_lst (da_cons de_str (da_cons de_str (da_cons de_str da_nil)))) (de_call G_law_pick (hr.mono (by omega)) rfl (da_cons (de_var 0) (da_cons de_int da_nil)))) (da_cons (de_var 6) (da_cons (de_var 7) da_nil)))))))))))))))
abbrev s_law_any_rule : Stmt := top 24
abbrev n_law_any_rule : List Str := ["left", "shapes", "constants", "known", "body", "k", "shape", "head"]
theorem sc_law_any_rule : FnScope n_law_any_rule ["left", "shapes", "constants"] (defScope s_law_any_rule) := ⟨rfl, rfl, rfl, by decide +kernel, rfl, by decide +kernel, by decide +kernel⟩
theorem ok_law_any_rule (T : Txt mg) {f : Addr} {fd : FuncData} (F : Fun K "_law_any_rule" "_law_any_rule" s_law_any_rule f fd) (hf : mg "_law_any_rule" = some (.ref f)) (hb : Binds K fd ["left", "shapes", "constants"] []) {k : Nat} {sp_law_pick sp_law_any_part sp_law_any_atom sp_law_group : DSp}
    (G_law_pick : FnD P w K mg base k "_law_pick" sp_law_pick)
    (G_law_any_part : FnD P w K mg base k "_law_any_part" sp_law_any_part)
    (G_law_any_atom : FnD P w K mg base k "_law_any_atom" sp_law_any_atom)
    (G_law_group : FnD P w K mg base k "_law_group" sp_law_group) {sp : DSp}
    (sem : ∀ ds S R, sp ds S R → ds.length = 3 ∧ w_law_any_rule sp_law_pick sp_law_any_part sp_law_any_atom sp_law_group (endsD R) (startD 8 ds) S) : FnD P w K mg base (k + 1) "_law_any_rule" sp := by
  refine fn_mk (N := n_law_any_rule) (ps := ["left", "shapes", "constants"]) (ws := w_law_any_rule sp_law_pick sp_law_any_part sp_law_any_atom sp_law_group) F sc_law_any_rule hf hb (by decide) (fun ds S R h => (sem ds S R h).1) (fun cdv A outer s H E hr => ?_) (fun ds S R h => (sem ds S R h).2)
  have nd : (n_law_any_rule).Nodup := sc_law_any_rule.nd
  have hu := room_units hr
  unfold w_law_any_rule
  exact (ds_cons (ds_set nd (de_lst da_nil))
  (ds_cons (ds_set nd (de_lst da_nil))
  (ds_cons (ds_for PassesOwn.never rfl (di_range1 T.b_range rfl (da_cons (de_op od_add de_int (de_call G_law_pick (hr.mono (by omega)) rfl (da_cons (de_var 0) (da_cons (de_ix (od_ix hu) (de_lst (da_cons de_int (da_cons de_int (da_cons de_int (da_cons de_int da_nil))))) (de_call G_law_pick (hr.mono (by omega)) rfl (da_cons (de_var 0) (da_cons de_int da_nil)))) da_nil)))) da_nil)) (dg_name nd)
    (ds_one (ds_expr (de_mt PySem.F.plainAttrs_list PySem.F.slot_list_append PySem.F.type_list_append md_append (de_var 4) (da_cons (de_call G_law_any_part (hr.mono (by omega)) rfl (da_cons (de_var 0) (da_cons (de_var 1) (da_cons (de_var 3) (da_cons (de_var 2) da_nil))))) da_nil)))))
  (ds_cons (ds_set nd (de_ix (od_ix hu) (de_var 1) (de_call G_law_pick (hr.mono (by omega)) rfl (da_cons (de_var 0) (da_cons (de_callB cd_len T.b_len rfl (by decide +kernel) (da_cons (de_var 1) da_nil)) da_nil)))))
  (ds_cons (ds_set nd (de_call G_law_any_atom (hr.mono (by omega)) rfl (da_cons (de_var 0) (da_cons (de_var 6) (da_cons (de_var 3) (da_cons (de_var 2) (da_cons de_bl da_nil)))))))
  (ds_cons (ds_if (dt_cmp od_gt (de_call G_law_pick (hr.mono (by omega)) rfl (da_cons (de_var 0) (da_cons de_int da_nil))) de_int)
    (ds_one (ds_ret (de_tup (da_cons (de_var 7) (da_cons de_non (da_cons (de_callT cd_tuple T.b_tuple rfl (by decide +kernel) (da_cons (de_var 4) da_nil)) da_nil))))))
    ds_nil)
  (ds_one (ds_ret (de_tup (da_cons (de_var 7) (da_cons (de_call G_law_group (hr.mono (by omega)) rfl (da_cons (de_var 0) (da_cons (de_var 3) da_nil))) (da_cons (de_callT cd_tuple T.b_tuple rfl (by decide +kernel) (da_cons (de_var 4) da_nil)) da_nil))))))))))))
abbrev s_law_any_shapes : Stmt := top 25
abbrev n_law_any_shapes : List Str := ["left", "words", "many", "k"]
theorem sc_law_any_shapes : FnScope n_law_any_shapes ["left", "words"] (defScope s_law_any_shapes) := ⟨rfl, rfl, rfl, by decide +kernel, rfl, by decide +kernel, by decide +kernel⟩
theorem ok_law_any_shapes (T : Txt mg) {f : Addr} {fd : FuncData} (F : Fun K "_law_any_shapes" "_law_any_shapes" s_law_any_shapes f fd) (hf : mg "_law_any_shapes" = some (.ref f)) (hb : Binds K fd ["left", "words"] []) {k : Nat} {sp_law_pick : DSp}
    (G_law_pick : FnD P w K mg base k "_law_pick" sp_law_pick) {sp : DSp}
    (sem : ∀ ds S R, sp ds S R → ds.length = 2 ∧ w_law_any_shapes sp_law_pick (endsD R) (startD 4 ds) S) : FnD P w K mg base (k + 1) "_law_any_shapes" sp := by
  refine fn_mk (N := n_law_any_shapes) (ps := ["left", "words"]) (ws := w_law_any_shapes sp_law_pick) F sc_law_any_shapes hf hb (by decide) (fun ds S R h => (sem ds S R h).1) (fun cdv A outer s H E hr => ?_) (fun ds S R h => (sem ds S R h).2)
  have nd : (n_law_any_shapes).Nodup := sc_law_any_shapes.nd
  have hu := room_units hr
  unfold w_law_any_shapes
  exact (ds_cons (ds_set nd (de_ix (od_ix hu) (de_lst (da_cons de_int (da_cons de_int (da_cons de_int (da_cons de_int (da_cons de_int (da_cons de_int (da_cons de_int (da_cons de_int da_nil))))))))) (de_call G_law_pick (hr.mono (by omega)) rfl (da_cons (de_var 0) (da_cons de_int da_nil)))))
  (ds_one (ds_ret (de_lc (own := [("k", 3)]) (g := (gName 3)) (own_name (by decide)) rfl nd (di_range1 T.b_range rfl (da_cons (de_var 2) da_nil)) (blkOk_by (own := [("k", 3)]) (N := n_law_any_shapes) (sc := (defScope s_law_any_shapes)) (by decide +kernel)) (fun _ _ _ _ _ => (pg_nm nd)) (fun _ _ _ _ _ => dts_nil) (fun _ _ _ _ _ => (de_tup (da_cons (de_ix (od_ix hu) (de_var 1) (de_call G_law_pick (hr.mono (by omega)) rfl (da_cons (de_var 0) (da_cons de_int da_nil)))) (da_cons (de_ix (od_ix hu) (de_lst (da_cons de_int (da_cons de_int (da_cons de_int (da_cons de_int (da_cons de_int (da_cons de_int da_nil))))))) (de_call G_law_pick (hr.mono (by omega)) rfl (da_cons (de_var 0) (da_cons de_int da_nil)))) da_nil))))))))
abbrev s_law_set : Stmt := top 26
abbrev n_law_set : List Str := ["script", "k", "left", "words", "shapes", "constants", "j"]
theorem sc_law_set : FnScope n_law_set ["script", "k"] (defScope s_law_set) := ⟨rfl, rfl, rfl, by decide +kernel, rfl, by decide +kernel, by decide +kernel⟩
theorem ok_law_set (T : Txt mg) {f : Addr} {fd : FuncData} (F : Fun K "_law_set" "_law_set" s_law_set f fd) (hf : mg "_law_set" = some (.ref f)) (hb : Binds K fd ["script", "k"] []) {k : Nat} {sp_law_left sp_law_words sp_law_any_shapes sp_law_constants sp_law_pick sp_law_any_rule : DSp}
    (G_law_left : FnD P w K mg base k "_law_left" sp_law_left)
    (G_law_words : FnD P w K mg base k "_law_words" sp_law_words)
    (G_law_any_shapes : FnD P w K mg base k "_law_any_shapes" sp_law_any_shapes)
    (G_law_constants : FnD P w K mg base k "_law_constants" sp_law_constants)
    (G_law_pick : FnD P w K mg base k "_law_pick" sp_law_pick)
    (G_law_any_rule : FnD P w K mg base k "_law_any_rule" sp_law_any_rule) {sp : DSp}
    (sem : ∀ ds S R, sp ds S R → ds.length = 2 ∧ w_law_set sp_law_left sp_law_words sp_law_any_shapes sp_law_constants sp_law_pick sp_law_any_rule (endsD R) (startD 7 ds) S) : FnD P w K mg base (k + 1) "_law_set" sp := by
  refine fn_mk (N := n_law_set) (ps := ["script", "k"]) (ws := w_law_set sp_law_left sp_law_words sp_law_any_shapes sp_law_constants sp_law_pick sp_law_any_rule) F sc_law_set hf hb (by decide) (fun ds S R h => (sem ds S R h).1) (fun cdv A outer s H E hr => ?_) (fun ds S R h => (sem ds S R h).2)
  have nd : (n_law_set).Nodup := sc_law_set.nd
  have hu := room_units hr
  unfold w_law_set
  exact (ds_cons (ds_set nd (de_call G_law_left (hr.mono (by omega)) rfl (da_cons (de_var 0) (da_cons de_int da_nil))))
  (ds_cons (ds_set nd (de_call G_law_words (hr.mono (by omega)) rfl (da_cons (de_var 2) da_nil)))
  (ds_cons (ds_set nd (de_call G_law_any_shapes (hr.mono (by omega)) rfl (da_cons (de_var 2) (da_cons (de_var 3) da_nil))))
  (ds_cons (ds_set nd (de_call G_law_constants (hr.mono (by omega)) rfl (da_cons (de_call G_law_left (hr.mono (by omega)) rfl (da_cons (de_var 0) (da_cons de_int da_nil))) (da_cons (de_var 3) da_nil))))
  (ds_cons (ds_set nd (de_call G_law_left (hr.mono (by omega)) rfl (da_cons (de_var 0) (da_cons (de_var 1) da_nil))))
  (ds_one (ds_ret (de_lc (own := [("j", 6)]) (g := (gName 6)) (own_name (by decide)) rfl nd (di_range1 T.b_range rfl (da_cons (de_ix (od_ix hu) (de_lst (da_cons de_int (da_cons de_int (da_cons de_int (da_cons de_int (da_cons de_int (da_cons de_int (da_cons de_int (da_cons de_int da_nil))))))))) (de_call G_law_pick (hr.mono (by omega)) rfl (da_cons (de_var 2) (da_cons de_int da_nil)))) da_nil)) (blkOk_by (own := [("j", 6)]) (N := n_law_set) (sc := (defScope s_law_set)) (by decide +kernel)) (fun _ _ _ _ _ => (pg_nm nd)) (fun _ _ _ _ _ => dts_nil) (fun _ _ _ _ _ => (de_call G_law_any_rule (hr.mono (by omega)) rfl (da_cons (de_var 2) (da_cons (de_var 4) (da_cons (de_var 5) da_nil)))))))))))))
abbrev s_law_looks : Stmt := top 27
abbrev n_law_looks : List Str := ["rule", "found", "part"]
theorem sc_law_looks : FnScope n_law_looks ["rule"] (defScope s_law_looks) := ⟨rfl, rfl, rfl, by decide +kernel, rfl, by decide +kernel, by decide +kernel⟩
theorem ok_law_looks (T : Txt mg) {f : Addr} {fd : FuncData} (F : Fun K "_law_looks" "_law_looks" s_law_looks f fd) (hf : mg "_law_looks" = some (.ref f)) (hb : Binds K fd ["rule"] []) {k : Nat} {sp : DSp}
    (sem : ∀ ds S R, sp ds S R → ds.length = 1 ∧ w_law_looks (endsD R) (startD 3 ds) S) : FnD P w K mg base (k + 1) "_law_looks" sp := by
  refine fn_mk (N := n_law_looks) (ps := ["rule"]) (ws := w_law_looks) F sc_law_looks hf hb (by decide) (fun ds S R h => (sem ds S R h).1) (fun cdv A outer s H E hr => ?_) (fun ds S R h => (sem ds S R h).2)
  have nd : (n_law_looks).Nodup := sc_law_looks.nd
  have hu := room_units hr
  unfold w_law_looks
  exact (ds_cons (ds_set nd (de_lst da_nil))
  (ds_cons (ds_for PassesOwn.never rfl (di_any (de_ix (od_ix hu) (de_var 0) de_int)) (dg_name nd)
    (ds_one (ds_if (dt_cmp (od_in hu) (de_ix (od_ix hu) (de_var 2) de_int) (de_tup (da_cons de_str (da_cons de_str da_nil))))
    (ds_one (ds_expr (de_mt PySem.F.plainAttrs_list PySem.F.slot_list_append PySem.F.type_list_append md_append (de_var 1) (da_cons (de_tup (da_cons (de_tup (da_cons (de_ix (od_ix hu) (de_ix (od_ix hu) (de_var 2) de_int) de_int) (da_cons (de_op od_sub (de_callB cd_len T.b_len rfl (by decide +kernel) (da_cons (de_ix (od_ix hu) (de_var 2) de_int) da_nil)) de_int) da_nil))) (da_cons (de_callT cd_int1 T.b_int rfl (by decide +kernel) (da_cons (de_or (de_cmp (od_eq hu) (de_ix (od_ix hu) (de_var 2) de_int) de_str) (de_one (de_cmp od_isNotN (de_ix (od_ix hu) (de_var 0) de_int) de_non))) da_nil)) da_nil))) da_nil))))
    ds_nil)))
  (ds_one (ds_ret (de_var 1)))))
abbrev s_law_shape_of : Stmt := top 28
abbrev n_law_shape_of : List Str := ["rule"]
theorem sc_law_shape_of : FnScope n_law_shape_of ["rule"] (defScope s_law_shape_of) := ⟨rfl, rfl, rfl, by decide +kernel, rfl, by decide +kernel, by decide +kernel⟩
theorem ok_law_shape_of (T : Txt mg) {f : Addr} {fd : FuncData} (F : Fun K "_law_shape_of" "_law_shape_of" s_law_shape_of f fd) (hf : mg "_law_shape_of" = some (.ref f)) (hb : Binds K fd ["rule"] []) {k : Nat} {sp : DSp}
    (sem : ∀ ds S R, sp ds S R → ds.length = 1 ∧ w_law_shape_of (endsD R) (startD 1 ds) S) : FnD P w K mg base (k + 1) "_law_shape_of" sp := by
  refine fn_mk (N := n_law_shape_of) (ps := ["rule"]) (ws := w_law_shape_of) F sc_law_shape_of hf hb (by decide) (fun ds S R h => (sem ds S R h).1) (fun cdv A outer s H E hr => ?_) (fun ds S R h => (sem ds S R h).2)
  have nd : (n_law_shape_of).Nodup := sc_law_shape_of.nd
  have hu := room_units hr
  unfold w_law_shape_of
  exact (ds_one (ds_ret (de_tup (da_cons (de_ix (od_ix hu) (de_ix (od_ix hu) (de_var 0) de_int) de_int) (da_cons (de_op od_add (de_op od_sub (de_callB cd_len T.b_len rfl (by decide +kernel) (da_cons (de_ix (od_ix hu) (de_var 0) de_int) da_nil)) de_int) (de_callT cd_int1 T.b_int rfl (by decide +kernel) (da_cons (de_cmp od_isNotN (de_ix (od_ix hu) (de_var 0) de_int) de_non) da_nil))) da_nil)))))
abbrev s_law_is_two : Stmt := top 29
abbrev n_law_is_two : List Str := ["rules", "i", "j"]
theorem sc_law_is_two : FnScope n_law_is_two ["rules", "i", "j"] (defScope s_law_is_two) := ⟨rfl, rfl, rfl, by decide +kernel, rfl, by decide +kernel, by decide +kernel⟩
theorem ok_law_is_two (T : Txt mg) {f : Addr} {fd : FuncData} (F : Fun K "_law_is_two" "_law_is_two" s_law_is_two f fd) (hf : mg "_law_is_two" = some (.ref f)) (hb : Binds K fd ["rules", "i", "j"] []) {k : Nat} {sp_law_shape_of : DSp}
    (G_law_shape_of : FnD P w K mg base k "_law_shape_of" sp_law_shape_of) {sp : DSp}
    (sem : ∀ ds S R, sp ds S R → ds.length = 3 ∧ w_law_is_two sp_law_shape_of (endsD R) (startD 3 ds) S) : FnD P w K mg base (k + 1) "_law_is_two" sp := by
  refine fn_mk (N := n_law_is_two) (ps := ["rules", "i", "j"]) (ws := w_law_is_two sp_law_shape_of) F sc_law_is_two hf hb (by decide) (fun ds S R h => (sem ds S R h).1) (fun cdv A outer s H E hr => ?_) (fun ds S R h => (sem ds S R h).2)
  have nd : (n_law_is_two).Nodup := sc_law_is_two.nd
  have hu := room_units hr
  unfold w_law_is_two
  exact (ds_one (ds_ret (de_and (de_cmp (od_eq hu) (de_call G_law_shape_of (hr.mono (by omega)) rfl (da_cons (de_ix (od_ix hu) (de_var 0) (de_var 1)) da_nil)) (de_call G_law_shape_of (hr.mono (by omega)) rfl (da_cons (de_ix (od_ix hu) (de_var 0) (de_var 2)) da_nil))) (de_one (de_or (de_cmp od_isNotN (de_ix (od_ix hu) (de_ix (od_ix hu) (de_var 0) (de_var 1)) de_int) de_non) (de_one (de_cmp od_isNotN (de_ix (od_ix hu) (de_ix (od_ix hu) (de_var 0) (de_var 2)) de_int) de_non)))))))
abbrev s_law_number : Stmt := top 30
abbrev n_law_number : List Str := ["rules", "k"]
theorem sc_law_number : FnScope n_law_number ["rules", "k"] (defScope s_law_number) := ⟨rfl, rfl, rfl, by decide +kernel, rfl, by decide +kernel, by decide +kernel⟩
theorem ok_law_number (T : Txt mg) {f : Addr} {fd : FuncData} (F : Fun K "_law_number" "_law_number" s_law_number f fd) (hf : mg "_law_number" = some (.ref f)) (hb : Binds K fd ["rules", "k"] []) {k : Nat} {sp : DSp}
    (sem : ∀ ds S R, sp ds S R → ds.length = 2 ∧ w_law_number (endsD R) (startD 2 ds) S) : FnD P w K mg base (k + 1) "_law_number" sp := by
  refine fn_mk (N := n_law_number) (ps := ["rules", "k"]) (ws := w_law_number) F sc_law_number hf hb (by decide) (fun ds S R h => (sem ds S R h).1) (fun cdv A outer s H E hr => ?_) (fun ds S R h => (sem ds S R h).2)
  have nd : (n_law_number).Nodup := sc_law_number.nd
  have hu := room_units hr
  unfold w_law_number
  exact (ds_one (ds_ret (de_and (de_isi T.b_isinstance rfl T.b_int rfl (by decide +kernel) (de_var 1)) (de_and (de_not (de_isi T.b_isinstance rfl T.b_bool rfl (by decide +kernel) (de_var 1))) (de_one (de_chain od_le (od_lt hu) de_int (de_var 1) (de_callB cd_len T.b_len rfl (by decide +kernel) (da_cons (de_var 0) da_nil))))))))
abbrev s_law_is_ring : Stmt := top 31
abbrev n_law_is_ring : List Str := ["rules", "numbers", "k", "greatest", "last", "steps", "shape", "step"]
theorem sc_law_is_ring : FnScope n_law_is_ring ["rules", "numbers"] (defScope s_law_is_ring) := ⟨rfl, rfl, rfl, by decide +kernel, rfl, by decide +kernel, by decide +kernel⟩
theorem ok_law_is_ring (T : Txt mg) {f : Addr} {fd : FuncData} (F : Fun K "_law_is_ring" "_law_is_ring" s_law_is_ring f fd) (hf : mg "_law_is_ring" = some (.ref f)) (hb : Binds K fd ["rules", "numbers"] []) {k : Nat} {sp_law_number sp_law_looks sp_law_shape_of : DSp}
    (G_law_number : FnD P w K mg base k "_law_number" sp_law_number)
    (G_law_looks : FnD P w K mg base k "_law_looks" sp_law_looks)
    (G_law_shape_of : FnD P w K mg base k "_law_shape_of" sp_law_shape_of) {sp : DSp}
    (sem : ∀ ds S R, sp ds S R → ds.length = 2 ∧ w_law_is_ring sp_law_number sp_law_looks sp_law_shape_of (endsD R) (startD 8 ds) S) : FnD P w K mg base (k + 1) "_law_is_ring" sp := by
  refine fn_mk (N := n_law_is_ring) (ps := ["rules", "numbers"]) (ws := w_law_is_ring sp_law_number sp_law_looks sp_law_shape_of) F sc_law_is_ring hf hb (by decide) (fun ds S R h => (sem ds S R h).1) (fun cdv A outer s H E hr => ?_) (fun ds S R h => (sem ds S R h).2)
  have nd : (n_law_is_ring).Nodup := sc_law_is_ring.nd
  have hu := room_units hr
  unfold w_law_is_ring
  exact (ds_cons (ds_if (PW.pt (dw_or (dt_not (dt_truth (de_isi T.b_isinstance rfl T.b_tuple rfl (by decide +kernel) (de_var 1)))) (dw_or (dt_cmp (od_eqE hu) (de_var 1) (de_tup da_nil)) (dw_or1 (dt_not (dt_truth (de_callB (cd_all rfl) T.b_all rfl (by decide +kernel) (da_cons (de_lc (own := [("k", 2)]) (g := (gName 2)) (own_name (by decide)) rfl nd (di_any (de_var 1)) (blkOk_by (own := [("k", 2)]) (N := n_law_is_ring) (sc := (defScope s_law_is_ring)) (by decide +kernel)) (fun _ _ _ _ _ => (pg_nm nd)) (fun _ _ _ _ _ => dts_nil) (fun _ _ _ _ _ => (de_call G_law_number (hr.mono (by omega)) rfl (da_cons (de_var 0) (da_cons (de_var 2) da_nil))))) da_nil))))))))
    (ds_one (ds_ret de_bl))
    ds_nil)
  (ds_cons (ds_if (dt_cmp (od_lt hu) (de_callB cd_len T.b_len rfl (by decide +kernel) (da_cons (de_callT (cd_dictP rfl) T.b_dict rfl (by decide +kernel) (da_cons (de_lc (own := [("k", 2)]) (g := (gName 2)) (own_name (by decide)) rfl nd (di_any (de_var 1)) (blkOk_by (own := [("k", 2)]) (N := n_law_is_ring) (sc := (defScope s_law_is_ring)) (by decide +kernel)) (fun _ _ _ _ _ => (pg_nm nd)) (fun _ _ _ _ _ => dts_nil) (fun _ _ _ _ _ => (de_tup (da_cons (de_var 2) (da_cons de_bl da_nil))))) da_nil)) da_nil)) (de_callB cd_len T.b_len rfl (by decide +kernel) (da_cons (de_var 1) da_nil)))
    (ds_one (ds_ret de_bl))
    ds_nil)
  (ds_cons (ds_set nd (de_lst da_nil))
  (ds_cons (ds_for PassesOwn.never rfl (di_zip T.b_zip rfl (da_cons (de_var 1) (da_cons (de_op od_add (de_slice sd_any (de_var 1) (do_some de_int) do_none) (de_slice sd_any (de_var 1) do_none (do_some de_int))) da_nil))) (dg_tup rfl (dgs_cons (dg_name nd) (dgs_cons (dg_name nd) dgs_nil)))
    (ds_cons (ds_setLc (own := [("shape", 6), ("step", 7)]) (g := (gTup K 2 (gCons (gName 6) (gCons (gName 7) gNil)))) (own_tup2 (by decide) (by decide)) (i := 5) rfl nd rfl rfl (sw_true rfl rfl rfl (by decide +kernel)) (di_any (de_call G_law_looks (hr.mono (by omega)) rfl (da_cons (de_ix (od_ix hu) (de_var 0) (de_var 2)) da_nil))) (blkOk_by (own := [("shape", 6), ("step", 7)]) (N := n_law_is_ring) (sc := (defScope s_law_is_ring)) (by decide +kernel)) (fun _ _ _ _ _ => (pg_tup rfl (pgs_cons (pg_nm nd) (pgs_cons (pg_nm nd) pgs_nil)))) (fun _ _ _ _ _ => (dts_one (dt_cmp (od_eq hu) (de_var 6) (de_call G_law_shape_of (hr.mono (by omega)) rfl (da_cons (de_ix (od_ix hu) (de_var 0) (de_var 4)) da_nil))))) (fun _ _ _ _ _ => (de_var 7)))
  (ds_cons (ds_if (dt_cmp (od_eq hu) (de_var 5) (de_lst da_nil))
    (ds_one (ds_ret de_bl))
    ds_nil)
  (ds_one (ds_expr (de_mt PySem.F.plainAttrs_list PySem.F.slot_list_append PySem.F.type_list_append md_append (de_var 3) (da_cons (de_callB (cd_maxL rfl) T.b_max rfl (by decide +kernel) (da_cons (de_var 5) da_nil)) da_nil)))))))
  (ds_one (ds_ret (de_cmp (od_eq hu) (de_callB (cd_maxL rfl) T.b_max rfl (by decide +kernel) (da_cons (de_var 3) da_nil)) de_int)))))))
abbrev s_law_is_bar : Stmt := top 32
abbrev n_law_is_bar : List Str := ["rules", "thing"]
theorem sc_law_is_bar : FnScope n_law_is_bar ["rules", "thing"] (defScope s_law_is_bar) := ⟨rfl, rfl, rfl, by decide +kernel, rfl, by decide +kernel, by decide +kernel⟩
theorem ok_law_is_bar (T : Txt mg) {f : Addr} {fd : FuncData} (F : Fun K "_law_is_bar" "_law_is_bar" s_law_is_bar f fd) (hf : mg "_law_is_bar" = some (.ref f)) (hb : Binds K fd ["rules", "thing"] []) {k : Nat} {sp_law_number sp_law_is_two sp_law_is_ring : DSp}
    (G_law_number : FnD P w K mg base k "_law_number" sp_law_number)
    (G_law_is_two : FnD P w K mg base k "_law_is_two" sp_law_is_two)
    (G_law_is_ring : FnD P w K mg base k "_law_is_ring" sp_law_is_ring) {sp : DSp}
    (sem : ∀ ds S R, sp ds S R → ds.length = 2 ∧ w_law_is_bar sp_law_number sp_law_is_two sp_law_is_ring (endsD R) (startD 2 ds) S) : FnD P w K mg base (k + 1) "_law_is_bar" sp := by
  refine fn_mk (N := n_law_is_bar) (ps := ["rules", "thing"]) (ws := w_law_is_bar sp_law_number sp_law_is_two sp_law_is_ring) F sc_law_is_bar hf hb (by decide) (fun ds S R h => (sem ds S R h).1) (fun cdv A outer s H E hr => ?_) (fun ds S R h => (sem ds S R h).2)
  have nd : (n_law_is_bar).Nodup := sc_law_is_bar.nd
  have hu := room_units hr
  unfold w_law_is_bar
  exact (ds_cons (ds_if (PW.pt (dw_or (dt_not (dt_truth (de_isi T.b_isinstance rfl T.b_tuple rfl (by decide +kernel) (de_var 1)))) (dw_or (dt_cmp (od_notIn hu) (de_callB cd_len T.b_len rfl (by decide +kernel) (da_cons (de_var 1) da_nil)) (de_tup (da_cons de_int (da_cons de_int da_nil)))) (dw_or1 (dt_not (dt_truth (de_isi T.b_isinstance rfl T.b_str rfl (by decide +kernel) (de_ix (od_ix hu) (de_var 1) de_int))))))))
    (ds_one (ds_ret de_bl))
    ds_nil)
  (ds_cons (ds_if (PW.pt (dw_and (dt_cmp (od_eq hu) (de_ix (od_ix hu) (de_var 1) de_int) de_str) (dw_and (dt_cmp (od_eq hu) (de_callB cd_len T.b_len rfl (by decide +kernel) (da_cons (de_var 1) da_nil)) de_int) (dw_and (dt_truth (de_call G_law_number (hr.mono (by omega)) rfl (da_cons (de_var 0) (da_cons (de_ix (od_ix hu) (de_var 1) de_int) da_nil)))) (dw_and1 (dt_truth (de_call G_law_number (hr.mono (by omega)) rfl (da_cons (de_var 0) (da_cons (de_ix (od_ix hu) (de_var 1) de_int) da_nil)))))))))
    (ds_one (ds_ret (de_and (de_cmp (od_lt hu) (de_ix (od_ix hu) (de_var 1) de_int) (de_ix (od_ix hu) (de_var 1) de_int)) (de_one (de_call G_law_is_two (hr.mono (by omega)) rfl (da_cons (de_var 0) (da_cons (de_ix (od_ix hu) (de_var 1) de_int) (da_cons (de_ix (od_ix hu) (de_var 1) de_int) da_nil))))))))
    ds_nil)
  (ds_one (ds_ret (de_and (de_cmp (od_eq hu) (de_ix (od_ix hu) (de_var 1) de_int) de_str) (de_and (de_cmp (od_eq hu) (de_callB cd_len T.b_len rfl (by decide +kernel) (da_cons (de_var 1) da_nil)) de_int) (de_one (de_call G_law_is_ring (hr.mono (by omega)) rfl (da_cons (de_var 0) (da_cons (de_ix (od_ix hu) (de_var 1) de_int) da_nil))))))))))
abbrev s_law_rings : Stmt := top 33
abbrev n_law_rings : List Str := ["numbers", "many", "some", "one"]
theorem sc_law_rings : FnScope n_law_rings ["numbers", "many"] (defScope s_law_rings) := ⟨rfl, rfl, rfl, by decide +kernel, rfl, by decide +kernel, by decide +kernel⟩
theorem ok_law_rings (T : Txt mg) {f : Addr} {fd : FuncData} (F : Fun K "_law_rings" "_law_rings" s_law_rings f fd) (hf : mg "_law_rings" = some (.ref f)) (hb : Binds K fd ["numbers", "many"] []) {k : Nat} {sp : DSp}
    (sem : ∀ ds S R, sp ds S R → ds.length = 2 ∧ w_law_rings (endsD R) (startD 4 ds) S) : FnD P w K mg base (k + 1) "_law_rings" sp := by
  refine fn_mk (N := n_law_rings) (ps := ["numbers", "many"]) (ws := w_law_rings) F sc_law_rings hf hb (by decide) (fun ds S R h => (sem ds S R h).1) (fun cdv A outer s H E hr => ?_) (fun ds S R h => (sem ds S R h).2)
  have nd : (n_law_rings).Nodup := sc_law_rings.nd
  have hu := room_units hr
  unfold w_law_rings
  exact (ds_cons (ds_set nd (de_lst (da_cons (de_tup da_nil) (da_cons (de_slice sd_any (de_var 0) (do_some de_int) do_none) (da_cons (de_revT (de_var 0)) (da_cons (de_op od_add (de_var 0) (de_slice sd_any (de_var 0) do_none (do_some de_int))) (da_cons (de_op od_add (de_slice sd_any (de_var 0) (do_some de_int) do_none) (de_slice sd_any (de_var 0) do_none (do_some de_int))) (da_cons (de_op od_add (de_var 0) (de_tup (da_cons (de_var 1) da_nil))) da_nil))))))))
  (ds_cons (ds_set nd (de_op od_add (de_var 2) (de_lst (da_cons (de_op od_add (de_var 0) (de_tup (da_cons (de_neg de_int) da_nil))) (da_cons (de_op od_add (de_var 0) (de_tup (da_cons (de_op od_pow de_int de_int) da_nil))) (da_cons (de_callT (cd_listA rfl) T.b_list rfl (by decide +kernel) (da_cons (de_var 0) da_nil)) (da_cons (de_tup (da_cons de_bl da_nil)) (da_cons (de_tup (da_cons de_bl da_nil)) (da_cons (de_tup (da_cons de_non da_nil)) (da_cons (de_tup (da_cons de_str da_nil)) (da_cons (de_tup (da_cons (de_tup (da_cons de_int da_nil)) da_nil)) da_nil)))))))))))
  (ds_cons (ds_set nd (de_op od_add (de_var 2) (de_lst (da_cons (de_op od_add (de_slice sd_any (de_var 0) do_none (do_some (de_neg de_int))) (de_tup (da_cons (de_callT (cd_strA hr) T.b_str rfl (by decide +kernel) (da_cons (de_ix (od_ix hu) (de_var 0) (de_neg de_int)) da_nil)) da_nil))) (da_cons (de_op od_add (de_slice sd_any (de_var 0) do_none (do_some (de_neg de_int))) (de_tup (da_cons (de_lst (da_cons (de_ix (od_ix hu) (de_var 0) (de_neg de_int)) da_nil)) da_nil))) (da_cons de_dct0 (da_cons de_non (da_cons de_int (da_cons de_str (da_cons (de_neg de_int) da_nil))))))))))
  (ds_one (ds_ret (de_op od_add (de_lc (own := [("one", 3)]) (g := (gName 3)) (own_name (by decide)) rfl nd (di_any (de_var 2)) (blkOk_by (own := [("one", 3)]) (N := n_law_rings) (sc := (defScope s_law_rings)) (by decide +kernel)) (fun _ _ _ _ _ => (pg_nm nd)) (fun _ _ _ _ _ => dts_nil) (fun _ _ _ _ _ => (de_tup (da_cons de_str (da_cons (de_var 3) da_nil))))) (de_lst (da_cons (de_tup (da_cons de_str (da_cons (de_var 0) (da_cons de_int da_nil)))) (da_cons (de_lst (da_cons de_str (da_cons (de_var 0) da_nil))) (da_cons (de_tup (da_cons de_str (da_cons (de_var 0) da_nil))) (da_cons (de_tup (da_cons de_str da_nil)) da_nil)))))))))))
abbrev s_law_twos : Stmt := top 34
abbrev n_law_twos : List Str := ["numbers", "many", "one", "other", "some"]
theorem sc_law_twos : FnScope n_law_twos ["numbers", "many"] (defScope s_law_twos) := ⟨rfl, rfl, rfl, by decide +kernel, rfl, by decide +kernel, by decide +kernel⟩
theorem ok_law_twos (T : Txt mg) {f : Addr} {fd : FuncData} (F : Fun K "_law_twos" "_law_twos" s_law_twos f fd) (hf : mg "_law_twos" = some (.ref f)) (hb : Binds K fd ["numbers", "many"] []) {k : Nat} {sp : DSp}
    (sem : ∀ ds S R, sp ds S R → ds.length = 2 ∧ w_law_twos (endsD R) (startD 5 ds) S) : FnD P w K mg base (k + 1) "_law_twos" sp := by
  refine fn_mk (N := n_law_twos) (ps := ["numbers", "many"]) (ws := w_law_twos) F sc_law_twos hf hb (by decide) (fun ds S R h => (sem ds S R h).1) (fun cdv A outer s H E hr => ?_) (fun ds S R h => (sem ds S R h).2)
  have nd : (n_law_twos).Nodup := sc_law_twos.nd
  have hu := room_units hr
  unfold w_law_twos
  exact (ds_cons (ds_set nd (de_ix (od_ix hu) (de_var 0) de_int))
  (ds_cons (ds_set nd (de_ix (od_ix hu) (de_var 0) (de_neg de_int)))
  (ds_cons (ds_set nd (de_lst (da_cons (de_tup (da_cons de_str (da_cons (de_var 3) (da_cons (de_var 2) da_nil)))) (da_cons (de_tup (da_cons de_str (da_cons (de_var 2) (da_cons (de_var 2) da_nil)))) (da_cons (de_tup (da_cons de_str (da_cons (de_var 2) (da_cons (de_var 1) da_nil)))) (da_cons (de_tup (da_cons de_str (da_cons (de_neg de_int) (da_cons (de_var 2) da_nil)))) (da_cons (de_tup (da_cons de_str (da_cons de_bl (da_cons de_bl da_nil)))) da_nil)))))))
  (ds_cons (ds_set nd (de_op od_add (de_var 4) (de_lst (da_cons (de_tup (da_cons de_str (da_cons de_str (da_cons de_str da_nil)))) (da_cons (de_tup (da_cons de_str (da_cons de_non (da_cons (de_var 2) da_nil)))) (da_cons (de_tup (da_cons de_str (da_cons (de_tup (da_cons (de_var 2) da_nil)) (da_cons (de_var 3) da_nil)))) (da_cons (de_tup (da_cons de_str (da_cons (de_var 2) (da_cons (de_var 3) (da_cons de_int da_nil))))) (da_cons (de_tup (da_cons de_str (da_cons (de_var 2) da_nil))) da_nil))))))))
  (ds_cons (ds_set nd (de_op od_add (de_var 4) (de_lst (da_cons (de_lst (da_cons de_str (da_cons (de_var 2) (da_cons (de_var 3) da_nil)))) (da_cons (de_tup (da_cons de_str (da_cons (de_var 2) (da_cons (de_var 3) da_nil)))) (da_cons (de_tup (da_cons de_str (da_cons (de_var 0) da_nil))) (da_cons (de_tup (da_cons de_str (da_cons (de_var 2) (da_cons (de_var 3) da_nil)))) (da_cons (de_tup (da_cons de_int (da_cons (de_var 2) (da_cons (de_var 3) da_nil)))) da_nil))))))))
  (ds_one (ds_ret (de_op od_add (de_var 4) (de_lst (da_cons de_non (da_cons de_bl (da_cons de_int (da_cons de_int (da_cons de_str (da_cons de_str (da_cons de_str (da_cons (de_lst da_nil) (da_cons de_dct0 (da_cons (de_tup da_nil) (da_cons (de_tup (da_cons de_str da_nil)) (da_cons (de_tup (da_cons (de_tup (da_cons de_str da_nil)) (da_cons (de_var 0) da_nil))) (da_cons (de_tup (da_cons de_non (da_cons (de_var 0) da_nil))) da_nil))))))))))))))))))))))
abbrev s_law_long : Stmt := top 35
abbrev n_law_long : List Str := ["left", "words", "many", "k", "shapes", "closed", "rules", "last", "kind", "body"]
theorem sc_law_long : FnScope n_law_long ["left", "words"] (defScope s_law_long) := ⟨rfl, rfl, rfl, by decide +kernel, rfl, by decide +kernel, by decide +kernel⟩
theorem ok_law_long (T : Txt mg) {f : Addr} {fd : FuncData} (F : Fun K "_law_long" "_law_long" s_law_long f fd) (hf : mg "_law_long" = some (.ref f)) (hb : Binds K fd ["left", "words"] []) {k : Nat} {sp_law_pick : DSp}
    (G_law_pick : FnD P w K mg base k "_law_pick" sp_law_pick) {sp : DSp}
    (sem : ∀ ds S R, sp ds S R → ds.length = 2 ∧ w_law_long sp_law_pick (endsD R) (startD 10 ds) S) : FnD P w K mg base (k + 1) "_law_long" sp := by
  refine fn_mk (N := n_law_long) (ps := ["left", "words"]) (ws := w_law_long sp_law_pick) F sc_law_long hf hb (by decide) (fun ds S R h => (sem ds S R h).1) (fun cdv A outer s H E hr => ?_) (fun ds S R h => (sem ds S R h).2)
  have nd : (n_law_long).Nodup := sc_law_long.nd
  have hu := room_units hr
  unfold w_law_long
  exact (ds_cons (ds_set nd (de_op od_add de_int (de_call G_law_pick (hr.mono (by omega)) rfl (da_cons (de_var 0) (da_cons de_int da_nil)))))
  (ds_cons (ds_setLc (own := [("k", 3)]) (g := (gName 3)) (own_name (by decide)) (i := 4) rfl nd rfl rfl (sw_true rfl rfl rfl (by decide +kernel)) (di_range1 T.b_range rfl (da_cons (de_op od_add (de_var 2) de_int) da_nil)) (blkOk_by (own := [("k", 3)]) (N := n_law_long) (sc := (defScope s_law_long)) (by decide +kernel)) (fun _ _ _ _ _ => (pg_nm nd)) (fun _ _ _ _ _ => dts_nil) (fun _ _ _ _ _ => (de_tup (da_cons (de_ix (od_ix hu) (de_var 1) (de_op od_mod (de_var 3) de_int)) (da_cons (de_op od_div (de_var 3) de_int) da_nil)))))
  (ds_cons (ds_set nd (de_cmp (od_eq hu) (de_call G_law_pick (hr.mono (by omega)) rfl (da_cons (de_var 0) (da_cons de_int da_nil))) de_int))
  (ds_cons (ds_set nd (de_lst da_nil))
  (ds_cons (ds_for PassesOwn.never rfl (di_range1 T.b_range rfl (da_cons (de_var 2) da_nil)) (dg_name nd)
    (ds_cons (ds_set nd (de_if (PW.pt (dw_and (dt_cmp (od_eq hu) (de_var 3) de_int) (dw_and1 (dt_truth (de_var 5))))) (de_ix (od_ix hu) (de_var 4) (de_op od_sub (de_var 2) de_int)) (de_ix (od_ix hu) (de_var 4) (de_op od_sub (de_var 3) de_int))))
  (ds_cons (ds_set nd (de_ix (od_ix hu) (de_lst (da_cons de_str (da_cons de_str (da_cons de_str da_nil)))) (de_call G_law_pick (hr.mono (by omega)) rfl (da_cons (de_var 0) (da_cons de_int da_nil)))))
  (ds_cons (ds_set nd (de_tup (da_cons (de_tup (da_cons (de_var 8) (da_cons (de_op od_add (de_tup (da_cons (de_ix (od_ix hu) (de_var 7) de_int) da_nil)) (de_op od_mulA (de_tup (da_cons de_int da_nil)) (de_ix (od_ix hu) (de_var 7) de_int))) da_nil))) da_nil)))
  (ds_one (ds_expr (de_mt PySem.F.plainAttrs_list PySem.F.slot_list_insert PySem.F.type_list_insert md_insert (de_var 6) (da_cons (de_call G_law_pick (hr.mono (by omega)) rfl (da_cons (de_var 0) (da_cons (de_op od_add (de_callB cd_len T.b_len rfl (by decide +kernel) (da_cons (de_var 6) da_nil)) de_int) da_nil))) (da_cons (de_tup (da_cons (de_op od_add (de_tup (da_cons (de_ix (od_ix hu) (de_ix (od_ix hu) (de_var 4) (de_var 3)) de_int) da_nil)) (de_op od_mulA (de_tup (da_cons de_int da_nil)) (de_ix (od_ix hu) (de_ix (od_ix hu) (de_var 4) (de_var 3)) de_int))) (da_cons de_non (da_cons (de_var 9) da_nil)))) da_nil)))))))))
  (ds_one (ds_ret (de_var 6))))))))
abbrev s_law : Stmt := top 36
abbrev n_law : List Str := ["script", "some", "rules", "handed", "found", "numbers", "thing", "told", "k"]
theorem sc_law : FnScope n_law ["script"] (defScope s_law) := ⟨rfl, rfl, rfl, by decide +kernel, rfl, by decide +kernel, by decide +kernel⟩
theorem ok_law (T : Txt mg) {f : Addr} {fd : FuncData} (F : Fun K "law" "law" s_law f fd) {k : Nat} {sp_law_set sp_law_long sp_law_left sp_law_words sp_bar sp_law_rings sp_law_twos sp_is_bar sp_law_is_bar : DSp}
    (G_law_set : FnD P w K mg base k "_law_set" sp_law_set)
    (G_law_long : FnD P w K mg base k "_law_long" sp_law_long)
    (G_law_left : FnD P w K mg base k "_law_left" sp_law_left)
    (G_law_words : FnD P w K mg base k "_law_words" sp_law_words)
    (G_bar : FnD P w K mg base k "bar" sp_bar)
    (G_law_rings : FnD P w K mg base k "_law_rings" sp_law_rings)
    (G_law_twos : FnD P w K mg base k "_law_twos" sp_law_twos)
    (G_is_bar : FnD P w K mg base k "is_bar" sp_is_bar)
    (G_law_is_bar : FnD P w K mg base k "_law_is_bar" sp_law_is_bar) {sp : DSp}
    (sem : ∀ ds S R, sp ds S R → ds.length = 1 ∧ w_law sp_law_set sp_law_long sp_law_left sp_law_words sp_bar sp_law_rings sp_law_twos sp_is_bar sp_law_is_bar (endsD R) (startD 9 ds) S) : FnG P w K mg base CX0 (k + 1) f fd ["script"] (spD w K mg sp) := by
  refine fn_ok (N := n_law) (ps := ["script"]) (ws := w_law sp_law_set sp_law_long sp_law_left sp_law_words sp_bar sp_law_rings sp_law_twos sp_is_bar sp_law_is_bar) F sc_law (by decide) (fun ds S R h => (sem ds S R h).1) (fun cdv A outer s H E hr => ?_) (fun ds S R h => (sem ds S R h).2)
  have nd : (n_law).Nodup := sc_law.nd
  have hu := room_units hr
  unfold w_law
  exact (ds_cons (ds_setLc (own := [("k", 8)]) (g := (gName 8)) (own_name (by decide)) (i := 1) rfl nd rfl rfl (sw_true rfl rfl rfl (by decide +kernel)) (di_range2 T.b_range rfl (da_cons de_int (da_cons de_int da_nil))) (blkOk_by (own := [("k", 8)]) (N := n_law) (sc := (defScope s_law)) (by decide +kernel)) (fun _ _ _ _ _ => (pg_nm nd)) (fun _ _ _ _ _ => dts_nil) (fun _ _ _ _ _ => (de_call G_law_set (hr.mono (by omega)) rfl (da_cons (de_var 0) (da_cons (de_var 8) da_nil)))))
  (ds_cons (ds_expr (de_mt PySem.F.plainAttrs_list PySem.F.slot_list_append PySem.F.type_list_append md_append (de_var 1) (da_cons (de_call G_law_long (hr.mono (by omega)) rfl (da_cons (de_call G_law_left (hr.mono (by omega)) rfl (da_cons (de_var 0) (da_cons de_int da_nil))) (da_cons (de_call G_law_words (hr.mono (by omega)) rfl (da_cons (de_call G_law_left (hr.mono (by omega)) rfl (da_cons (de_var 0) (da_cons de_int da_nil))) da_nil)) da_nil))) da_nil)))
  (ds_cons (ds_for PassesOwn.never rfl (di_any (de_var 1)) (dg_name nd)
    (ds_cons (ds_set nd (de_callT (cd_listA rfl) T.b_list rfl (by decide +kernel) (da_cons (de_var 2) da_nil)))
  (ds_cons (ds_set nd (de_call G_bar (hr.mono (by omega)) rfl (da_cons (de_var 3) da_nil)))
  (ds_cons (ds_set nd (de_tup (da_cons de_int da_nil)))
  (ds_cons (ds_if (dt_cmp od_isNotN (de_var 4) de_non)
    (ds_one (ds_set nd (de_if (dt_cmp (od_eq hu) (de_ix (od_ix hu) (de_var 4) de_int) de_str) (de_ix (od_ix hu) (de_var 4) de_int) (de_slice sd_any (de_var 4) (do_some de_int) do_none))))
    ds_nil)
  (ds_cons (ds_for PassesOwn.never rfl (di_any (de_op od_add (de_call G_law_rings (hr.mono (by omega)) rfl (da_cons (de_var 5) (da_cons (de_callB cd_len T.b_len rfl (by decide +kernel) (da_cons (de_var 2) da_nil)) da_nil))) (de_call G_law_twos (hr.mono (by omega)) rfl (da_cons (de_var 5) (da_cons (de_callB cd_len T.b_len rfl (by decide +kernel) (da_cons (de_var 2) da_nil)) da_nil))))) (dg_name nd)
    (ds_cons (ds_set nd (de_call G_is_bar (hr.mono (by omega)) rfl (da_cons (de_var 3) (da_cons (de_var 6) da_nil))))
  (ds_one (ds_if (PW.pt (dw_or (dt_not (dt_truth (de_isi T.b_isinstance rfl T.b_bool rfl (by decide +kernel) (de_var 7)))) (dw_or1 (dt_cmp (od_ne hu) (de_var 7) (de_call G_law_is_bar (hr.mono (by omega)) rfl (da_cons (de_var 2) (da_cons (de_var 6) da_nil)))))))
    (ds_one (ds_ret de_bl))
    ds_nil))))
  (ds_one (ds_if (dt_cmp (od_ne hu) (de_var 3) (de_var 2))
    (ds_one (ds_ret de_bl))
    ds_nil))))))))
  (ds_one (ds_ret de_bl)))))
end

structure All (K : PySem.W.Frag) (mg : Str → Option Value) : Prop where
  t : Txt mg
  f_shape_of : ∃ f fd, Fun K "shape_of" "shape_of" s_shape_of f fd ∧ mg "shape_of" = some (.ref f) ∧ Binds K fd ["atom"] []
  f_rule_shape : ∃ f fd, Fun K "rule_shape" "rule_shape" s_rule_shape f fd ∧ mg "rule_shape" = some (.ref f) ∧ Binds K fd ["rule"] []
  f_looked_at : ∃ f fd, Fun K "looked_at" "looked_at" s_looked_at f fd ∧ mg "looked_at" = some (.ref f) ∧ Binds K fd ["rule"] []
  f_two_of_one_shape : ∃ f fd, Fun K "two_of_one_shape" "two_of_one_shape" s_two_of_one_shape f fd ∧ mg "two_of_one_shape" = some (.ref f) ∧ Binds K fd ["rules"] []
  f_way_of_rules : ∃ f fd, Fun K "way_of_rules" "way_of_rules" s_way_of_rules f fd ∧ mg "way_of_rules" = some (.ref f) ∧ Binds K fd ["rules", "begin", "goal"] []
  f_ring_of_rules : ∃ f fd, Fun K "ring_of_rules" "ring_of_rules" s_ring_of_rules f fd ∧ mg "ring_of_rules" = some (.ref f) ∧ Binds K fd ["rules"] []
  f_bar : ∃ f fd, Fun K "bar" "bar" s_bar f fd ∧ mg "bar" = some (.ref f) ∧ Binds K fd ["rules"] []
  f_is_number : ∃ f fd, Fun K "is_number" "is_number" s_is_number f fd ∧ mg "is_number" = some (.ref f) ∧ Binds K fd ["rules", "thing"] []
  f_is_two : ∃ f fd, Fun K "is_two" "is_two" s_is_two f fd ∧ mg "is_two" = some (.ref f) ∧ Binds K fd ["rules", "i", "j"] []
  f_is_ring : ∃ f fd, Fun K "is_ring" "is_ring" s_is_ring f fd ∧ mg "is_ring" = some (.ref f) ∧ Binds K fd ["rules", "numbers"] []
  f_is_bar : ∃ f fd, Fun K "is_bar" "is_bar" s_is_bar f fd ∧ mg "is_bar" = some (.ref f) ∧ Binds K fd ["rules", "thing"] []
  f_law_cell_at : ∃ f fd, Fun K "_law_cell_at" "_law_cell_at" s_law_cell_at f fd ∧ mg "_law_cell_at" = some (.ref f) ∧ Binds K fd ["script", "k"] []
  f_law_left : ∃ f fd, Fun K "_law_left" "_law_left" s_law_left f fd ∧ mg "_law_left" = some (.ref f) ∧ Binds K fd ["script", "k"] []
  f_law_pick : ∃ f fd, Fun K "_law_pick" "_law_pick" s_law_pick f fd ∧ mg "_law_pick" = some (.ref f) ∧ Binds K fd ["left", "many"] []
  f_law_words : ∃ f fd, Fun K "_law_words" "_law_words" s_law_words f fd ∧ mg "_law_words" = some (.ref f) ∧ Binds K fd ["left"] []
  f_law_constants : ∃ f fd, Fun K "_law_constants" "_law_constants" s_law_constants f fd ∧ mg "_law_constants" = some (.ref f) ∧ Binds K fd ["left", "words"] []
  f_law_fresh : ∃ f fd, Fun K "_law_fresh" "_law_fresh" s_law_fresh f fd ∧ mg "_law_fresh" = some (.ref f) ∧ Binds K fd ["known"] []
  f_law_group : ∃ f fd, Fun K "_law_group" "_law_group" s_law_group f fd ∧ mg "_law_group" = some (.ref f) ∧ Binds K fd ["left", "known"] []
  f_law_any_pattern : ∃ f fd, Fun K "_law_any_pattern" "_law_any_pattern" s_law_any_pattern f fd ∧ mg "_law_any_pattern" = some (.ref f) ∧ Binds K fd ["left", "known", "constants", "fresh"] []
  f_law_any_atom : ∃ f fd, Fun K "_law_any_atom" "_law_any_atom" s_law_any_atom f fd ∧ mg "_law_any_atom" = some (.ref f) ∧ Binds K fd ["left", "shape", "known", "constants", "fresh"] []
  f_law_any_part : ∃ f fd, Fun K "_law_any_part" "_law_any_part" s_law_any_part f fd ∧ mg "_law_any_part" = some (.ref f) ∧ Binds K fd ["left", "shapes", "known", "constants"] []
  f_law_any_rule : ∃ f fd, Fun K "_law_any_rule" "_law_any_rule" s_law_any_rule f fd ∧ mg "_law_any_rule" = some (.ref f) ∧ Binds K fd ["left", "shapes", "constants"] []
  f_law_any_shapes : ∃ f fd, Fun K "_law_any_shapes" "_law_any_shapes" s_law_any_shapes f fd ∧ mg "_law_any_shapes" = some (.ref f) ∧ Binds K fd ["left", "words"] []
  f_law_set : ∃ f fd, Fun K "_law_set" "_law_set" s_law_set f fd ∧ mg "_law_set" = some (.ref f) ∧ Binds K fd ["script", "k"] []
  f_law_looks : ∃ f fd, Fun K "_law_looks" "_law_looks" s_law_looks f fd ∧ mg "_law_looks" = some (.ref f) ∧ Binds K fd ["rule"] []
  f_law_shape_of : ∃ f fd, Fun K "_law_shape_of" "_law_shape_of" s_law_shape_of f fd ∧ mg "_law_shape_of" = some (.ref f) ∧ Binds K fd ["rule"] []
  f_law_is_two : ∃ f fd, Fun K "_law_is_two" "_law_is_two" s_law_is_two f fd ∧ mg "_law_is_two" = some (.ref f) ∧ Binds K fd ["rules", "i", "j"] []
  f_law_number : ∃ f fd, Fun K "_law_number" "_law_number" s_law_number f fd ∧ mg "_law_number" = some (.ref f) ∧ Binds K fd ["rules", "k"] []
  f_law_is_ring : ∃ f fd, Fun K "_law_is_ring" "_law_is_ring" s_law_is_ring f fd ∧ mg "_law_is_ring" = some (.ref f) ∧ Binds K fd ["rules", "numbers"] []
  f_law_is_bar : ∃ f fd, Fun K "_law_is_bar" "_law_is_bar" s_law_is_bar f fd ∧ mg "_law_is_bar" = some (.ref f) ∧ Binds K fd ["rules", "thing"] []
  f_law_rings : ∃ f fd, Fun K "_law_rings" "_law_rings" s_law_rings f fd ∧ mg "_law_rings" = some (.ref f) ∧ Binds K fd ["numbers", "many"] []
  f_law_twos : ∃ f fd, Fun K "_law_twos" "_law_twos" s_law_twos f fd ∧ mg "_law_twos" = some (.ref f) ∧ Binds K fd ["numbers", "many"] []
  f_law_long : ∃ f fd, Fun K "_law_long" "_law_long" s_law_long f fd ∧ mg "_law_long" = some (.ref f) ∧ Binds K fd ["left", "words"] []
section
variable {P : Program} {w : World} {K : PySem.W.Frag} {mg : Str → Option Value} {base : Heap}
theorem G_shape_of (A : All K mg) : FnD P w K mg base 1 "shape_of" S_shape_of :=
  let ⟨f, fd, F, hf, hb⟩ := A.f_shape_of; ok_shape_of A.t F hf hb sem_shape_of
theorem G_rule_shape (A : All K mg) : FnD P w K mg base 2 "rule_shape" S_rule_shape :=
  let ⟨f, fd, F, hf, hb⟩ := A.f_rule_shape; ok_rule_shape A.t F hf hb ((G_shape_of A).mono (by omega)) sem_rule_shape
theorem G_looked_at (A : All K mg) : FnD P w K mg base 2 "looked_at" S_looked_at :=
  let ⟨f, fd, F, hf, hb⟩ := A.f_looked_at; ok_looked_at A.t F hf hb ((G_shape_of A).mono (by omega)) sem_looked_at
theorem G_two_of_one_shape (A : All K mg) : FnD P w K mg base 3 "two_of_one_shape" S_two_of_one_shape :=
  let ⟨f, fd, F, hf, hb⟩ := A.f_two_of_one_shape; ok_two_of_one_shape A.t F hf hb ((G_rule_shape A).mono (by omega)) sem_two_of_one_shape
theorem G_way_of_rules (A : All K mg) : FnD P w K mg base 3 "way_of_rules" S_way_of_rules :=
  let ⟨f, fd, F, hf, hb⟩ := A.f_way_of_rules; ok_way_of_rules A.t F hf hb ((G_rule_shape A).mono (by omega)) ((G_looked_at A).mono (by omega)) sem_way_of_rules
theorem G_ring_of_rules (A : All K mg) : FnD P w K mg base 4 "ring_of_rules" S_ring_of_rules :=
  let ⟨f, fd, F, hf, hb⟩ := A.f_ring_of_rules; ok_ring_of_rules A.t F hf hb ((G_looked_at A).mono (by omega)) ((G_way_of_rules A).mono (by omega)) ((G_rule_shape A).mono (by omega)) sem_ring_of_rules
theorem G_bar (A : All K mg) : FnD P w K mg base 5 "bar" S_bar :=
  let ⟨f, fd, F, hf, hb⟩ := A.f_bar; ok_bar A.t F hf hb ((G_two_of_one_shape A).mono (by omega)) ((G_ring_of_rules A).mono (by omega)) sem_bar
theorem G_is_number (A : All K mg) : FnD P w K mg base 1 "is_number" S_is_number :=
  let ⟨f, fd, F, hf, hb⟩ := A.f_is_number; ok_is_number A.t F hf hb sem_is_number
theorem G_is_two (A : All K mg) : FnD P w K mg base 3 "is_two" S_is_two :=
  let ⟨f, fd, F, hf, hb⟩ := A.f_is_two; ok_is_two A.t F hf hb ((G_is_number A).mono (by omega)) ((G_rule_shape A).mono (by omega)) sem_is_two
theorem G_is_ring (A : All K mg) : FnD P w K mg base 3 "is_ring" S_is_ring :=
  let ⟨f, fd, F, hf, hb⟩ := A.f_is_ring; ok_is_ring A.t F hf hb ((G_is_number A).mono (by omega)) ((G_rule_shape A).mono (by omega)) ((G_looked_at A).mono (by omega)) sem_is_ring
theorem G_is_bar (A : All K mg) : FnD P w K mg base 4 "is_bar" S_is_bar :=
  let ⟨f, fd, F, hf, hb⟩ := A.f_is_bar; ok_is_bar A.t F hf hb ((G_is_two A).mono (by omega)) ((G_is_ring A).mono (by omega)) sem_is_bar
theorem G_law_cell_at (A : All K mg) : FnD P w K mg base 1 "_law_cell_at" S_law_cell_at :=
  let ⟨f, fd, F, hf, hb⟩ := A.f_law_cell_at; ok_law_cell_at A.t F hf hb sem_law_cell_at
theorem G_law_left (A : All K mg) : FnD P w K mg base 2 "_law_left" S_law_left :=
  let ⟨f, fd, F, hf, hb⟩ := A.f_law_left; ok_law_left A.t F hf hb ((G_law_cell_at A).mono (by omega)) sem_law_left
theorem G_law_pick (A : All K mg) : FnD P w K mg base 1 "_law_pick" S_law_pick :=
  let ⟨f, fd, F, hf, hb⟩ := A.f_law_pick; ok_law_pick A.t F hf hb sem_law_pick
theorem G_law_words (A : All K mg) : FnD P w K mg base 2 "_law_words" S_law_words :=
  let ⟨f, fd, F, hf, hb⟩ := A.f_law_words; ok_law_words A.t F hf hb ((G_law_pick A).mono (by omega)) sem_law_words
theorem G_law_constants (A : All K mg) : FnD P w K mg base 2 "_law_constants" S_law_constants :=
  let ⟨f, fd, F, hf, hb⟩ := A.f_law_constants; ok_law_constants A.t F hf hb ((G_law_pick A).mono (by omega)) sem_law_constants
theorem G_law_fresh (A : All K mg) : FnD P w K mg base 1 "_law_fresh" S_law_fresh :=
  let ⟨f, fd, F, hf, hb⟩ := A.f_law_fresh; ok_law_fresh A.t F hf hb sem_law_fresh
theorem G_law_group (A : All K mg) : FnD P w K mg base 2 "_law_group" S_law_group :=
  let ⟨f, fd, F, hf, hb⟩ := A.f_law_group; ok_law_group A.t F hf hb ((G_law_pick A).mono (by omega)) sem_law_group
theorem G_law_any_pattern (A : All K mg) : FnD P w K mg base 2 "_law_any_pattern" S_law_any_pattern :=
  let ⟨f, fd, F, hf, hb⟩ := A.f_law_any_pattern; ok_law_any_pattern A.t F hf hb ((G_law_pick A).mono (by omega)) ((G_law_fresh A).mono (by omega)) sem_law_any_pattern
theorem G_law_any_atom (A : All K mg) : FnD P w K mg base 3 "_law_any_atom" S_law_any_atom :=
  let ⟨f, fd, F, hf, hb⟩ := A.f_law_any_atom; ok_law_any_atom A.t F hf hb ((G_law_any_pattern A).mono (by omega)) sem_law_any_atom
theorem G_law_any_part (A : All K mg) : FnD P w K mg base 4 "_law_any_part" S_law_any_part :=
  let ⟨f, fd, F, hf, hb⟩ := A.f_law_any_part; ok_law_any_part A.t F hf hb ((G_law_pick A).mono (by omega)) ((G_law_any_atom A).mono (by omega)) ((G_law_any_pattern A).mono (by omega)) ((G_law_fresh A).mono (by omega)) sem_law_any_part
theorem G_law_any_rule (A : All K mg) : FnD P w K mg base 5 "_law_any_rule" S_law_any_rule :=
  let ⟨f, fd, F, hf, hb⟩ := A.f_law_any_rule; ok_law_any_rule A.t F hf hb ((G_law_pick A).mono (by omega)) ((G_law_any_part A).mono (by omega)) ((G_law_any_atom A).mono (by omega)) ((G_law_group A).mono (by omega)) sem_law_any_rule
theorem G_law_any_shapes (A : All K mg) : FnD P w K mg base 2 "_law_any_shapes" S_law_any_shapes :=
  let ⟨f, fd, F, hf, hb⟩ := A.f_law_any_shapes; ok_law_any_shapes A.t F hf hb ((G_law_pick A).mono (by omega)) sem_law_any_shapes
theorem G_law_set (A : All K mg) : FnD P w K mg base 6 "_law_set" S_law_set :=
  let ⟨f, fd, F, hf, hb⟩ := A.f_law_set; ok_law_set A.t F hf hb ((G_law_left A).mono (by omega)) ((G_law_words A).mono (by omega)) ((G_law_any_shapes A).mono (by omega)) ((G_law_constants A).mono (by omega)) ((G_law_pick A).mono (by omega)) ((G_law_any_rule A).mono (by omega)) sem_law_set
theorem G_law_looks (A : All K mg) : FnD P w K mg base 1 "_law_looks" S_law_looks :=
  let ⟨f, fd, F, hf, hb⟩ := A.f_law_looks; ok_law_looks A.t F hf hb sem_law_looks
theorem G_law_shape_of (A : All K mg) : FnD P w K mg base 1 "_law_shape_of" S_law_shape_of :=
  let ⟨f, fd, F, hf, hb⟩ := A.f_law_shape_of; ok_law_shape_of A.t F hf hb sem_law_shape_of
theorem G_law_is_two (A : All K mg) : FnD P w K mg base 2 "_law_is_two" S_law_is_two :=
  let ⟨f, fd, F, hf, hb⟩ := A.f_law_is_two; ok_law_is_two A.t F hf hb ((G_law_shape_of A).mono (by omega)) sem_law_is_two
theorem G_law_number (A : All K mg) : FnD P w K mg base 1 "_law_number" S_law_number :=
  let ⟨f, fd, F, hf, hb⟩ := A.f_law_number; ok_law_number A.t F hf hb sem_law_number
theorem G_law_is_ring (A : All K mg) : FnD P w K mg base 2 "_law_is_ring" S_law_is_ring :=
  let ⟨f, fd, F, hf, hb⟩ := A.f_law_is_ring; ok_law_is_ring A.t F hf hb ((G_law_number A).mono (by omega)) ((G_law_looks A).mono (by omega)) ((G_law_shape_of A).mono (by omega)) sem_law_is_ring
theorem G_law_is_bar (A : All K mg) : FnD P w K mg base 3 "_law_is_bar" S_law_is_bar :=
  let ⟨f, fd, F, hf, hb⟩ := A.f_law_is_bar; ok_law_is_bar A.t F hf hb ((G_law_number A).mono (by omega)) ((G_law_is_two A).mono (by omega)) ((G_law_is_ring A).mono (by omega)) sem_law_is_bar
theorem G_law_rings (A : All K mg) : FnD P w K mg base 1 "_law_rings" S_law_rings :=
  let ⟨f, fd, F, hf, hb⟩ := A.f_law_rings; ok_law_rings A.t F hf hb sem_law_rings
theorem G_law_twos (A : All K mg) : FnD P w K mg base 1 "_law_twos" S_law_twos :=
  let ⟨f, fd, F, hf, hb⟩ := A.f_law_twos; ok_law_twos A.t F hf hb sem_law_twos
theorem G_law_long (A : All K mg) : FnD P w K mg base 2 "_law_long" S_law_long :=
  let ⟨f, fd, F, hf, hb⟩ := A.f_law_long; ok_law_long A.t F hf hb ((G_law_pick A).mono (by omega)) sem_law_long
end
theorem all_mk {l : PySem.W.OpenLaw} {w : World} {K : PySem.W.Frag} {h : Heap} {mg : Str → Option Value} {fa : Addr} (X : K.In h) (G : h.Ns mainGlobals mg) (hfa : mg "law" = some (.ref fa))
    {f_shape_of : Addr} {od_shape_of an_shape_of : Option Addr} {sl_shape_of : Array (Option Value)} {oc_shape_of kV_shape_of dc_shape_of pm_shape_of cd_shape_of ct_shape_of : Value}
    {f_rule_shape : Addr} {od_rule_shape an_rule_shape : Option Addr} {sl_rule_shape : Array (Option Value)} {oc_rule_shape kV_rule_shape dc_rule_shape pm_rule_shape cd_rule_shape ct_rule_shape : Value}
    {f_looked_at : Addr} {od_looked_at an_looked_at : Option Addr} {sl_looked_at : Array (Option Value)} {oc_looked_at kV_looked_at dc_looked_at pm_looked_at cd_looked_at ct_looked_at : Value}
    {f_two_of_one_shape : Addr} {od_two_of_one_shape an_two_of_one_shape : Option Addr} {sl_two_of_one_shape : Array (Option Value)} {oc_two_of_one_shape kV_two_of_one_shape dc_two_of_one_shape pm_two_of_one_shape cd_two_of_one_shape ct_two_of_one_shape : Value}
    {f_way_of_rules : Addr} {od_way_of_rules an_way_of_rules : Option Addr} {sl_way_of_rules : Array (Option Value)} {oc_way_of_rules kV_way_of_rules dc_way_of_rules pm_way_of_rules cd_way_of_rules ct_way_of_rules : Value}
    {f_ring_of_rules : Addr} {od_ring_of_rules an_ring_of_rules : Option Addr} {sl_ring_of_rules : Array (Option Value)} {oc_ring_of_rules kV_ring_of_rules dc_ring_of_rules pm_ring_of_rules cd_ring_of_rules ct_ring_of_rules : Value}
    {f_bar : Addr} {od_bar an_bar : Option Addr} {sl_bar : Array (Option Value)} {oc_bar kV_bar dc_bar pm_bar cd_bar ct_bar : Value}
    {f_is_number : Addr} {od_is_number an_is_number : Option Addr} {sl_is_number : Array (Option Value)} {oc_is_number kV_is_number dc_is_number pm_is_number cd_is_number ct_is_number : Value}
    {f_is_two : Addr} {od_is_two an_is_two : Option Addr} {sl_is_two : Array (Option Value)} {oc_is_two kV_is_two dc_is_two pm_is_two cd_is_two ct_is_two : Value}
    {f_is_ring : Addr} {od_is_ring an_is_ring : Option Addr} {sl_is_ring : Array (Option Value)} {oc_is_ring kV_is_ring dc_is_ring pm_is_ring cd_is_ring ct_is_ring : Value}
    {f_is_bar : Addr} {od_is_bar an_is_bar : Option Addr} {sl_is_bar : Array (Option Value)} {oc_is_bar kV_is_bar dc_is_bar pm_is_bar cd_is_bar ct_is_bar : Value}
    {f_law_cell_at : Addr} {od_law_cell_at an_law_cell_at : Option Addr} {sl_law_cell_at : Array (Option Value)} {oc_law_cell_at kV_law_cell_at dc_law_cell_at pm_law_cell_at cd_law_cell_at ct_law_cell_at : Value}
    {f_law_left : Addr} {od_law_left an_law_left : Option Addr} {sl_law_left : Array (Option Value)} {oc_law_left kV_law_left dc_law_left pm_law_left cd_law_left ct_law_left : Value}
    {f_law_pick : Addr} {od_law_pick an_law_pick : Option Addr} {sl_law_pick : Array (Option Value)} {oc_law_pick kV_law_pick dc_law_pick pm_law_pick cd_law_pick ct_law_pick : Value}
    {f_law_words : Addr} {od_law_words an_law_words : Option Addr} {sl_law_words : Array (Option Value)} {oc_law_words kV_law_words dc_law_words pm_law_words cd_law_words ct_law_words : Value}
    {f_law_constants : Addr} {od_law_constants an_law_constants : Option Addr} {sl_law_constants : Array (Option Value)} {oc_law_constants kV_law_constants dc_law_constants pm_law_constants cd_law_constants ct_law_constants : Value}
    {f_law_fresh : Addr} {od_law_fresh an_law_fresh : Option Addr} {sl_law_fresh : Array (Option Value)} {oc_law_fresh kV_law_fresh dc_law_fresh pm_law_fresh cd_law_fresh ct_law_fresh : Value}
    {f_law_group : Addr} {od_law_group an_law_group : Option Addr} {sl_law_group : Array (Option Value)} {oc_law_group kV_law_group dc_law_group pm_law_group cd_law_group ct_law_group : Value}
    {f_law_any_pattern : Addr} {od_law_any_pattern an_law_any_pattern : Option Addr} {sl_law_any_pattern : Array (Option Value)} {oc_law_any_pattern kV_law_any_pattern dc_law_any_pattern pm_law_any_pattern cd_law_any_pattern ct_law_any_pattern : Value}
    {f_law_any_atom : Addr} {od_law_any_atom an_law_any_atom : Option Addr} {sl_law_any_atom : Array (Option Value)} {oc_law_any_atom kV_law_any_atom dc_law_any_atom pm_law_any_atom cd_law_any_atom ct_law_any_atom : Value}
    {f_law_any_part : Addr} {od_law_any_part an_law_any_part : Option Addr} {sl_law_any_part : Array (Option Value)} {oc_law_any_part kV_law_any_part dc_law_any_part pm_law_any_part cd_law_any_part ct_law_any_part : Value}
    {f_law_any_rule : Addr} {od_law_any_rule an_law_any_rule : Option Addr} {sl_law_any_rule : Array (Option Value)} {oc_law_any_rule kV_law_any_rule dc_law_any_rule pm_law_any_rule cd_law_any_rule ct_law_any_rule : Value}
    {f_law_any_shapes : Addr} {od_law_any_shapes an_law_any_shapes : Option Addr} {sl_law_any_shapes : Array (Option Value)} {oc_law_any_shapes kV_law_any_shapes dc_law_any_shapes pm_law_any_shapes cd_law_any_shapes ct_law_any_shapes : Value}
    {f_law_set : Addr} {od_law_set an_law_set : Option Addr} {sl_law_set : Array (Option Value)} {oc_law_set kV_law_set dc_law_set pm_law_set cd_law_set ct_law_set : Value}
    {f_law_looks : Addr} {od_law_looks an_law_looks : Option Addr} {sl_law_looks : Array (Option Value)} {oc_law_looks kV_law_looks dc_law_looks pm_law_looks cd_law_looks ct_law_looks : Value}
    {f_law_shape_of : Addr} {od_law_shape_of an_law_shape_of : Option Addr} {sl_law_shape_of : Array (Option Value)} {oc_law_shape_of kV_law_shape_of dc_law_shape_of pm_law_shape_of cd_law_shape_of ct_law_shape_of : Value}
    {f_law_is_two : Addr} {od_law_is_two an_law_is_two : Option Addr} {sl_law_is_two : Array (Option Value)} {oc_law_is_two kV_law_is_two dc_law_is_two pm_law_is_two cd_law_is_two ct_law_is_two : Value}
    {f_law_number : Addr} {od_law_number an_law_number : Option Addr} {sl_law_number : Array (Option Value)} {oc_law_number kV_law_number dc_law_number pm_law_number cd_law_number ct_law_number : Value}
    {f_law_is_ring : Addr} {od_law_is_ring an_law_is_ring : Option Addr} {sl_law_is_ring : Array (Option Value)} {oc_law_is_ring kV_law_is_ring dc_law_is_ring pm_law_is_ring cd_law_is_ring ct_law_is_ring : Value}
    {f_law_is_bar : Addr} {od_law_is_bar an_law_is_bar : Option Addr} {sl_law_is_bar : Array (Option Value)} {oc_law_is_bar kV_law_is_bar dc_law_is_bar pm_law_is_bar cd_law_is_bar ct_law_is_bar : Value}
    {f_law_rings : Addr} {od_law_rings an_law_rings : Option Addr} {sl_law_rings : Array (Option Value)} {oc_law_rings kV_law_rings dc_law_rings pm_law_rings cd_law_rings ct_law_rings : Value}
    {f_law_twos : Addr} {od_law_twos an_law_twos : Option Addr} {sl_law_twos : Array (Option Value)} {oc_law_twos kV_law_twos dc_law_twos pm_law_twos cd_law_twos ct_law_twos : Value}
    {f_law_long : Addr} {od_law_long an_law_long : Option Addr} {sl_law_long : Array (Option Value)} {oc_law_long kV_law_long dc_law_long pm_law_long cd_law_long ct_law_long : Value}
    {f_law : Addr} {od_law an_law : Option Addr} {sl_law : Array (Option Value)} {oc_law kV_law dc_law pm_law cd_law ct_law : Value}
    (a_shape_of : PySem.W.nsIn K mainGlobals "shape_of" = some (some (.ref f_shape_of))) (l_shape_of : K.lookup f_shape_of = some ⟨oc_shape_of, od_shape_of, .func (PySem.W.fnOf "shape_of" "shape_of" (defArgs s_shape_of) (defBody s_shape_of) (defScope s_shape_of) .none kV_shape_of dc_shape_of pm_shape_of an_shape_of cd_shape_of ct_shape_of), sl_shape_of⟩) (c_shape_of : PySem.W.codeIn K cd_shape_of "shape_of" = true) (k_shape_of : PySem.W.keepIn K (.ref f_shape_of) = true)
    (a_rule_shape : PySem.W.nsIn K mainGlobals "rule_shape" = some (some (.ref f_rule_shape))) (l_rule_shape : K.lookup f_rule_shape = some ⟨oc_rule_shape, od_rule_shape, .func (PySem.W.fnOf "rule_shape" "rule_shape" (defArgs s_rule_shape) (defBody s_rule_shape) (defScope s_rule_shape) .none kV_rule_shape dc_rule_shape pm_rule_shape an_rule_shape cd_rule_shape ct_rule_shape), sl_rule_shape⟩) (c_rule_shape : PySem.W.codeIn K cd_rule_shape "rule_shape" = true) (k_rule_shape : PySem.W.keepIn K (.ref f_rule_shape) = true)
    (a_looked_at : PySem.W.nsIn K mainGlobals "looked_at" = some (some (.ref f_looked_at))) (l_looked_at : K.lookup f_looked_at = some ⟨oc_looked_at, od_looked_at, .func (PySem.W.fnOf "looked_at" "looked_at" (defArgs s_looked_at) (defBody s_looked_at) (defScope s_looked_at) .none kV_looked_at dc_looked_at pm_looked_at an_looked_at cd_looked_at ct_looked_at), sl_looked_at⟩) (c_looked_at : PySem.W.codeIn K cd_looked_at "looked_at" = true) (k_looked_at : PySem.W.keepIn K (.ref f_looked_at) = true)
    (a_two_of_one_shape : PySem.W.nsIn K mainGlobals "two_of_one_shape" = some (some (.ref f_two_of_one_shape))) (l_two_of_one_shape : K.lookup f_two_of_one_shape = some ⟨oc_two_of_one_shape, od_two_of_one_shape, .func (PySem.W.fnOf "two_of_one_shape" "two_of_one_shape" (defArgs s_two_of_one_shape) (defBody s_two_of_one_shape) (defScope s_two_of_one_shape) .none kV_two_of_one_shape dc_two_of_one_shape pm_two_of_one_shape an_two_of_one_shape cd_two_of_one_shape ct_two_of_one_shape), sl_two_of_one_shape⟩) (c_two_of_one_shape : PySem.W.codeIn K cd_two_of_one_shape "two_of_one_shape" = true) (k_two_of_one_shape : PySem.W.keepIn K (.ref f_two_of_one_shape) = true)
    (a_way_of_rules : PySem.W.nsIn K mainGlobals "way_of_rules" = some (some (.ref f_way_of_rules))) (l_way_of_rules : K.lookup f_way_of_rules = some ⟨oc_way_of_rules, od_way_of_rules, .func (PySem.W.fnOf "way_of_rules" "way_of_rules" (defArgs s_way_of_rules) (defBody s_way_of_rules) (defScope s_way_of_rules) .none kV_way_of_rules dc_way_of_rules pm_way_of_rules an_way_of_rules cd_way_of_rules ct_way_of_rules), sl_way_of_rules⟩) (c_way_of_rules : PySem.W.codeIn K cd_way_of_rules "way_of_rules" = true) (k_way_of_rules : PySem.W.keepIn K (.ref f_way_of_rules) = true)
    (a_ring_of_rules : PySem.W.nsIn K mainGlobals "ring_of_rules" = some (some (.ref f_ring_of_rules))) (l_ring_of_rules : K.lookup f_ring_of_rules = some ⟨oc_ring_of_rules, od_ring_of_rules, .func (PySem.W.fnOf "ring_of_rules" "ring_of_rules" (defArgs s_ring_of_rules) (defBody s_ring_of_rules) (defScope s_ring_of_rules) .none kV_ring_of_rules dc_ring_of_rules pm_ring_of_rules an_ring_of_rules cd_ring_of_rules ct_ring_of_rules), sl_ring_of_rules⟩) (c_ring_of_rules : PySem.W.codeIn K cd_ring_of_rules "ring_of_rules" = true) (k_ring_of_rules : PySem.W.keepIn K (.ref f_ring_of_rules) = true)
    (a_bar : PySem.W.nsIn K mainGlobals "bar" = some (some (.ref f_bar))) (l_bar : K.lookup f_bar = some ⟨oc_bar, od_bar, .func (PySem.W.fnOf "bar" "bar" (defArgs s_bar) (defBody s_bar) (defScope s_bar) .none kV_bar dc_bar pm_bar an_bar cd_bar ct_bar), sl_bar⟩) (c_bar : PySem.W.codeIn K cd_bar "bar" = true) (k_bar : PySem.W.keepIn K (.ref f_bar) = true)
    (a_is_number : PySem.W.nsIn K mainGlobals "is_number" = some (some (.ref f_is_number))) (l_is_number : K.lookup f_is_number = some ⟨oc_is_number, od_is_number, .func (PySem.W.fnOf "is_number" "is_number" (defArgs s_is_number) (defBody s_is_number) (defScope s_is_number) .none kV_is_number dc_is_number pm_is_number an_is_number cd_is_number ct_is_number), sl_is_number⟩) (c_is_number : PySem.W.codeIn K cd_is_number "is_number" = true) (k_is_number : PySem.W.keepIn K (.ref f_is_number) = true)
    (a_is_two : PySem.W.nsIn K mainGlobals "is_two" = some (some (.ref f_is_two))) (l_is_two : K.lookup f_is_two = some ⟨oc_is_two, od_is_two, .func (PySem.W.fnOf "is_two" "is_two" (defArgs s_is_two) (defBody s_is_two) (defScope s_is_two) .none kV_is_two dc_is_two pm_is_two an_is_two cd_is_two ct_is_two), sl_is_two⟩) (c_is_two : PySem.W.codeIn K cd_is_two "is_two" = true) (k_is_two : PySem.W.keepIn K (.ref f_is_two) = true)
    (a_is_ring : PySem.W.nsIn K mainGlobals "is_ring" = some (some (.ref f_is_ring))) (l_is_ring : K.lookup f_is_ring = some ⟨oc_is_ring, od_is_ring, .func (PySem.W.fnOf "is_ring" "is_ring" (defArgs s_is_ring) (defBody s_is_ring) (defScope s_is_ring) .none kV_is_ring dc_is_ring pm_is_ring an_is_ring cd_is_ring ct_is_ring), sl_is_ring⟩) (c_is_ring : PySem.W.codeIn K cd_is_ring "is_ring" = true) (k_is_ring : PySem.W.keepIn K (.ref f_is_ring) = true)
    (a_is_bar : PySem.W.nsIn K mainGlobals "is_bar" = some (some (.ref f_is_bar))) (l_is_bar : K.lookup f_is_bar = some ⟨oc_is_bar, od_is_bar, .func (PySem.W.fnOf "is_bar" "is_bar" (defArgs s_is_bar) (defBody s_is_bar) (defScope s_is_bar) .none kV_is_bar dc_is_bar pm_is_bar an_is_bar cd_is_bar ct_is_bar), sl_is_bar⟩) (c_is_bar : PySem.W.codeIn K cd_is_bar "is_bar" = true) (k_is_bar : PySem.W.keepIn K (.ref f_is_bar) = true)
    (a_law_cell_at : PySem.W.nsIn K mainGlobals "_law_cell_at" = some (some (.ref f_law_cell_at))) (l_law_cell_at : K.lookup f_law_cell_at = some ⟨oc_law_cell_at, od_law_cell_at, .func (PySem.W.fnOf "_law_cell_at" "_law_cell_at" (defArgs s_law_cell_at) (defBody s_law_cell_at) (defScope s_law_cell_at) .none kV_law_cell_at dc_law_cell_at pm_law_cell_at an_law_cell_at cd_law_cell_at ct_law_cell_at), sl_law_cell_at⟩) (c_law_cell_at : PySem.W.codeIn K cd_law_cell_at "_law_cell_at" = true) (k_law_cell_at : PySem.W.keepIn K (.ref f_law_cell_at) = true)
    (a_law_left : PySem.W.nsIn K mainGlobals "_law_left" = some (some (.ref f_law_left))) (l_law_left : K.lookup f_law_left = some ⟨oc_law_left, od_law_left, .func (PySem.W.fnOf "_law_left" "_law_left" (defArgs s_law_left) (defBody s_law_left) (defScope s_law_left) .none kV_law_left dc_law_left pm_law_left an_law_left cd_law_left ct_law_left), sl_law_left⟩) (c_law_left : PySem.W.codeIn K cd_law_left "_law_left" = true) (k_law_left : PySem.W.keepIn K (.ref f_law_left) = true)
    (a_law_pick : PySem.W.nsIn K mainGlobals "_law_pick" = some (some (.ref f_law_pick))) (l_law_pick : K.lookup f_law_pick = some ⟨oc_law_pick, od_law_pick, .func (PySem.W.fnOf "_law_pick" "_law_pick" (defArgs s_law_pick) (defBody s_law_pick) (defScope s_law_pick) .none kV_law_pick dc_law_pick pm_law_pick an_law_pick cd_law_pick ct_law_pick), sl_law_pick⟩) (c_law_pick : PySem.W.codeIn K cd_law_pick "_law_pick" = true) (k_law_pick : PySem.W.keepIn K (.ref f_law_pick) = true)
    (a_law_words : PySem.W.nsIn K mainGlobals "_law_words" = some (some (.ref f_law_words))) (l_law_words : K.lookup f_law_words = some ⟨oc_law_words, od_law_words, .func (PySem.W.fnOf "_law_words" "_law_words" (defArgs s_law_words) (defBody s_law_words) (defScope s_law_words) .none kV_law_words dc_law_words pm_law_words an_law_words cd_law_words ct_law_words), sl_law_words⟩) (c_law_words : PySem.W.codeIn K cd_law_words "_law_words" = true) (k_law_words : PySem.W.keepIn K (.ref f_law_words) = true)
    (a_law_constants : PySem.W.nsIn K mainGlobals "_law_constants" = some (some (.ref f_law_constants))) (l_law_constants : K.lookup f_law_constants = some ⟨oc_law_constants, od_law_constants, .func (PySem.W.fnOf "_law_constants" "_law_constants" (defArgs s_law_constants) (defBody s_law_constants) (defScope s_law_constants) .none kV_law_constants dc_law_constants pm_law_constants an_law_constants cd_law_constants ct_law_constants), sl_law_constants⟩) (c_law_constants : PySem.W.codeIn K cd_law_constants "_law_constants" = true) (k_law_constants : PySem.W.keepIn K (.ref f_law_constants) = true)
    (a_law_fresh : PySem.W.nsIn K mainGlobals "_law_fresh" = some (some (.ref f_law_fresh))) (l_law_fresh : K.lookup f_law_fresh = some ⟨oc_law_fresh, od_law_fresh, .func (PySem.W.fnOf "_law_fresh" "_law_fresh" (defArgs s_law_fresh) (defBody s_law_fresh) (defScope s_law_fresh) .none kV_law_fresh dc_law_fresh pm_law_fresh an_law_fresh cd_law_fresh ct_law_fresh), sl_law_fresh⟩) (c_law_fresh : PySem.W.codeIn K cd_law_fresh "_law_fresh" = true) (k_law_fresh : PySem.W.keepIn K (.ref f_law_fresh) = true)
    (a_law_group : PySem.W.nsIn K mainGlobals "_law_group" = some (some (.ref f_law_group))) (l_law_group : K.lookup f_law_group = some ⟨oc_law_group, od_law_group, .func (PySem.W.fnOf "_law_group" "_law_group" (defArgs s_law_group) (defBody s_law_group) (defScope s_law_group) .none kV_law_group dc_law_group pm_law_group an_law_group cd_law_group ct_law_group), sl_law_group⟩) (c_law_group : PySem.W.codeIn K cd_law_group "_law_group" = true) (k_law_group : PySem.W.keepIn K (.ref f_law_group) = true)
    (a_law_any_pattern : PySem.W.nsIn K mainGlobals "_law_any_pattern" = some (some (.ref f_law_any_pattern))) (l_law_any_pattern : K.lookup f_law_any_pattern = some ⟨oc_law_any_pattern, od_law_any_pattern, .func (PySem.W.fnOf "_law_any_pattern" "_law_any_pattern" (defArgs s_law_any_pattern) (defBody s_law_any_pattern) (defScope s_law_any_pattern) .none kV_law_any_pattern dc_law_any_pattern pm_law_any_pattern an_law_any_pattern cd_law_any_pattern ct_law_any_pattern), sl_law_any_pattern⟩) (c_law_any_pattern : PySem.W.codeIn K cd_law_any_pattern "_law_any_pattern" = true) (k_law_any_pattern : PySem.W.keepIn K (.ref f_law_any_pattern) = true)
    (a_law_any_atom : PySem.W.nsIn K mainGlobals "_law_any_atom" = some (some (.ref f_law_any_atom))) (l_law_any_atom : K.lookup f_law_any_atom = some ⟨oc_law_any_atom, od_law_any_atom, .func (PySem.W.fnOf "_law_any_atom" "_law_any_atom" (defArgs s_law_any_atom) (defBody s_law_any_atom) (defScope s_law_any_atom) .none kV_law_any_atom dc_law_any_atom pm_law_any_atom an_law_any_atom cd_law_any_atom ct_law_any_atom), sl_law_any_atom⟩) (c_law_any_atom : PySem.W.codeIn K cd_law_any_atom "_law_any_atom" = true) (k_law_any_atom : PySem.W.keepIn K (.ref f_law_any_atom) = true)
    (a_law_any_part : PySem.W.nsIn K mainGlobals "_law_any_part" = some (some (.ref f_law_any_part))) (l_law_any_part : K.lookup f_law_any_part = some ⟨oc_law_any_part, od_law_any_part, .func (PySem.W.fnOf "_law_any_part" "_law_any_part" (defArgs s_law_any_part) (defBody s_law_any_part) (defScope s_law_any_part) .none kV_law_any_part dc_law_any_part pm_law_any_part an_law_any_part cd_law_any_part ct_law_any_part), sl_law_any_part⟩) (c_law_any_part : PySem.W.codeIn K cd_law_any_part "_law_any_part" = true) (k_law_any_part : PySem.W.keepIn K (.ref f_law_any_part) = true)
    (a_law_any_rule : PySem.W.nsIn K mainGlobals "_law_any_rule" = some (some (.ref f_law_any_rule))) (l_law_any_rule : K.lookup f_law_any_rule = some ⟨oc_law_any_rule, od_law_any_rule, .func (PySem.W.fnOf "_law_any_rule" "_law_any_rule" (defArgs s_law_any_rule) (defBody s_law_any_rule) (defScope s_law_any_rule) .none kV_law_any_rule dc_law_any_rule pm_law_any_rule an_law_any_rule cd_law_any_rule ct_law_any_rule), sl_law_any_rule⟩) (c_law_any_rule : PySem.W.codeIn K cd_law_any_rule "_law_any_rule" = true) (k_law_any_rule : PySem.W.keepIn K (.ref f_law_any_rule) = true)
    (a_law_any_shapes : PySem.W.nsIn K mainGlobals "_law_any_shapes" = some (some (.ref f_law_any_shapes))) (l_law_any_shapes : K.lookup f_law_any_shapes = some ⟨oc_law_any_shapes, od_law_any_shapes, .func (PySem.W.fnOf "_law_any_shapes" "_law_any_shapes" (defArgs s_law_any_shapes) (defBody s_law_any_shapes) (defScope s_law_any_shapes) .none kV_law_any_shapes dc_law_any_shapes pm_law_any_shapes an_law_any_shapes cd_law_any_shapes ct_law_any_shapes), sl_law_any_shapes⟩) (c_law_any_shapes : PySem.W.codeIn K cd_law_any_shapes "_law_any_shapes" = true) (k_law_any_shapes : PySem.W.keepIn K (.ref f_law_any_shapes) = true)
    (a_law_set : PySem.W.nsIn K mainGlobals "_law_set" = some (some (.ref f_law_set))) (l_law_set : K.lookup f_law_set = some ⟨oc_law_set, od_law_set, .func (PySem.W.fnOf "_law_set" "_law_set" (defArgs s_law_set) (defBody s_law_set) (defScope s_law_set) .none kV_law_set dc_law_set pm_law_set an_law_set cd_law_set ct_law_set), sl_law_set⟩) (c_law_set : PySem.W.codeIn K cd_law_set "_law_set" = true) (k_law_set : PySem.W.keepIn K (.ref f_law_set) = true)
    (a_law_looks : PySem.W.nsIn K mainGlobals "_law_looks" = some (some (.ref f_law_looks))) (l_law_looks : K.lookup f_law_looks = some ⟨oc_law_looks, od_law_looks, .func (PySem.W.fnOf "_law_looks" "_law_looks" (defArgs s_law_looks) (defBody s_law_looks) (defScope s_law_looks) .none kV_law_looks dc_law_looks pm_law_looks an_law_looks cd_law_looks ct_law_looks), sl_law_looks⟩) (c_law_looks : PySem.W.codeIn K cd_law_looks "_law_looks" = true) (k_law_looks : PySem.W.keepIn K (.ref f_law_looks) = true)
    (a_law_shape_of : PySem.W.nsIn K mainGlobals "_law_shape_of" = some (some (.ref f_law_shape_of))) (l_law_shape_of : K.lookup f_law_shape_of = some ⟨oc_law_shape_of, od_law_shape_of, .func (PySem.W.fnOf "_law_shape_of" "_law_shape_of" (defArgs s_law_shape_of) (defBody s_law_shape_of) (defScope s_law_shape_of) .none kV_law_shape_of dc_law_shape_of pm_law_shape_of an_law_shape_of cd_law_shape_of ct_law_shape_of), sl_law_shape_of⟩) (c_law_shape_of : PySem.W.codeIn K cd_law_shape_of "_law_shape_of" = true) (k_law_shape_of : PySem.W.keepIn K (.ref f_law_shape_of) = true)
    (a_law_is_two : PySem.W.nsIn K mainGlobals "_law_is_two" = some (some (.ref f_law_is_two))) (l_law_is_two : K.lookup f_law_is_two = some ⟨oc_law_is_two, od_law_is_two, .func (PySem.W.fnOf "_law_is_two" "_law_is_two" (defArgs s_law_is_two) (defBody s_law_is_two) (defScope s_law_is_two) .none kV_law_is_two dc_law_is_two pm_law_is_two an_law_is_two cd_law_is_two ct_law_is_two), sl_law_is_two⟩) (c_law_is_two : PySem.W.codeIn K cd_law_is_two "_law_is_two" = true) (k_law_is_two : PySem.W.keepIn K (.ref f_law_is_two) = true)
    (a_law_number : PySem.W.nsIn K mainGlobals "_law_number" = some (some (.ref f_law_number))) (l_law_number : K.lookup f_law_number = some ⟨oc_law_number, od_law_number, .func (PySem.W.fnOf "_law_number" "_law_number" (defArgs s_law_number) (defBody s_law_number) (defScope s_law_number) .none kV_law_number dc_law_number pm_law_number an_law_number cd_law_number ct_law_number), sl_law_number⟩) (c_law_number : PySem.W.codeIn K cd_law_number "_law_number" = true) (k_law_number : PySem.W.keepIn K (.ref f_law_number) = true)
    (a_law_is_ring : PySem.W.nsIn K mainGlobals "_law_is_ring" = some (some (.ref f_law_is_ring))) (l_law_is_ring : K.lookup f_law_is_ring = some ⟨oc_law_is_ring, od_law_is_ring, .func (PySem.W.fnOf "_law_is_ring" "_law_is_ring" (defArgs s_law_is_ring) (defBody s_law_is_ring) (defScope s_law_is_ring) .none kV_law_is_ring dc_law_is_ring pm_law_is_ring an_law_is_ring cd_law_is_ring ct_law_is_ring), sl_law_is_ring⟩) (c_law_is_ring : PySem.W.codeIn K cd_law_is_ring "_law_is_ring" = true) (k_law_is_ring : PySem.W.keepIn K (.ref f_law_is_ring) = true)
    (a_law_is_bar : PySem.W.nsIn K mainGlobals "_law_is_bar" = some (some (.ref f_law_is_bar))) (l_law_is_bar : K.lookup f_law_is_bar = some ⟨oc_law_is_bar, od_law_is_bar, .func (PySem.W.fnOf "_law_is_bar" "_law_is_bar" (defArgs s_law_is_bar) (defBody s_law_is_bar) (defScope s_law_is_bar) .none kV_law_is_bar dc_law_is_bar pm_law_is_bar an_law_is_bar cd_law_is_bar ct_law_is_bar), sl_law_is_bar⟩) (c_law_is_bar : PySem.W.codeIn K cd_law_is_bar "_law_is_bar" = true) (k_law_is_bar : PySem.W.keepIn K (.ref f_law_is_bar) = true)
    (a_law_rings : PySem.W.nsIn K mainGlobals "_law_rings" = some (some (.ref f_law_rings))) (l_law_rings : K.lookup f_law_rings = some ⟨oc_law_rings, od_law_rings, .func (PySem.W.fnOf "_law_rings" "_law_rings" (defArgs s_law_rings) (defBody s_law_rings) (defScope s_law_rings) .none kV_law_rings dc_law_rings pm_law_rings an_law_rings cd_law_rings ct_law_rings), sl_law_rings⟩) (c_law_rings : PySem.W.codeIn K cd_law_rings "_law_rings" = true) (k_law_rings : PySem.W.keepIn K (.ref f_law_rings) = true)
    (a_law_twos : PySem.W.nsIn K mainGlobals "_law_twos" = some (some (.ref f_law_twos))) (l_law_twos : K.lookup f_law_twos = some ⟨oc_law_twos, od_law_twos, .func (PySem.W.fnOf "_law_twos" "_law_twos" (defArgs s_law_twos) (defBody s_law_twos) (defScope s_law_twos) .none kV_law_twos dc_law_twos pm_law_twos an_law_twos cd_law_twos ct_law_twos), sl_law_twos⟩) (c_law_twos : PySem.W.codeIn K cd_law_twos "_law_twos" = true) (k_law_twos : PySem.W.keepIn K (.ref f_law_twos) = true)
    (a_law_long : PySem.W.nsIn K mainGlobals "_law_long" = some (some (.ref f_law_long))) (l_law_long : K.lookup f_law_long = some ⟨oc_law_long, od_law_long, .func (PySem.W.fnOf "_law_long" "_law_long" (defArgs s_law_long) (defBody s_law_long) (defScope s_law_long) .none kV_law_long dc_law_long pm_law_long an_law_long cd_law_long ct_law_long), sl_law_long⟩) (c_law_long : PySem.W.codeIn K cd_law_long "_law_long" = true) (k_law_long : PySem.W.keepIn K (.ref f_law_long) = true)
    (a_law : PySem.W.nsIn K mainGlobals "law" = some (some (.ref f_law))) (l_law : K.lookup f_law = some ⟨oc_law, od_law, .func (PySem.W.fnOf "law" "law" (defArgs s_law) (defBody s_law) (defScope s_law) .none kV_law dc_law pm_law an_law cd_law ct_law), sl_law⟩) (c_law : PySem.W.codeIn K cd_law "law" = true) (k_law : PySem.W.keepIn K (.ref f_law) = true)
    (zb_all : PySem.W.nsIn K mainGlobals "all" = some none)
    (zb_bool : PySem.W.nsIn K mainGlobals "bool" = some none)
    (zb_dict : PySem.W.nsIn K mainGlobals "dict" = some none)
    (zb_enumerate : PySem.W.nsIn K mainGlobals "enumerate" = some none)
    (zb_int : PySem.W.nsIn K mainGlobals "int" = some none)
    (zb_isinstance : PySem.W.nsIn K mainGlobals "isinstance" = some none)
    (zb_len : PySem.W.nsIn K mainGlobals "len" = some none)
    (zb_list : PySem.W.nsIn K mainGlobals "list" = some none)
    (zb_max : PySem.W.nsIn K mainGlobals "max" = some none)
    (zb_range : PySem.W.nsIn K mainGlobals "range" = some none)
    (zb_set : PySem.W.nsIn K mainGlobals "set" = some none)
    (zb_str : PySem.W.nsIn K mainGlobals "str" = some none)
    (zb_tuple : PySem.W.nsIn K mainGlobals "tuple" = some none)
    (zb_zip : PySem.W.nsIn K mainGlobals "zip" = some none) :
    ∃ fd : FuncData, (∀ (s : Shared) (u : Value), BindsTo s fd ⟨[u], []⟩ [("script", u)]) ∧ ∀ base : Heap, K.In base → base.Ns mainGlobals mg → FnG l.prog w K mg base CX0 7 fa fd ["script"] (spD w K mg S_law) := by
  have e := hfa.symm.trans (PySem.W.mg_of X G a_law)
  cases e
  have T : Txt mg := ⟨PySem.W.mg_none_of X G zb_all, PySem.W.mg_none_of X G zb_bool, PySem.W.mg_none_of X G zb_dict, PySem.W.mg_none_of X G zb_enumerate, PySem.W.mg_none_of X G zb_int, PySem.W.mg_none_of X G zb_isinstance, PySem.W.mg_none_of X G zb_len, PySem.W.mg_none_of X G zb_list, PySem.W.mg_none_of X G zb_max, PySem.W.mg_none_of X G zb_range, PySem.W.mg_none_of X G zb_set, PySem.W.mg_none_of X G zb_str, PySem.W.mg_none_of X G zb_tuple, PySem.W.mg_none_of X G zb_zip⟩
  have F_shape_of := fun_mk (st := s_shape_of) l_shape_of c_shape_of k_shape_of
  have B_shape_of := F_shape_of.binds (ps := ["atom"]) fun _ _ _ _ _ _ us hl => match us, hl with | [_], _ => rfl
  have F_rule_shape := fun_mk (st := s_rule_shape) l_rule_shape c_rule_shape k_rule_shape
  have B_rule_shape := F_rule_shape.binds (ps := ["rule"]) fun _ _ _ _ _ _ us hl => match us, hl with | [_], _ => rfl
  have F_looked_at := fun_mk (st := s_looked_at) l_looked_at c_looked_at k_looked_at
  have B_looked_at := F_looked_at.binds (ps := ["rule"]) fun _ _ _ _ _ _ us hl => match us, hl with | [_], _ => rfl
  have F_two_of_one_shape := fun_mk (st := s_two_of_one_shape) l_two_of_one_shape c_two_of_one_shape k_two_of_one_shape
  have B_two_of_one_shape := F_two_of_one_shape.binds (ps := ["rules"]) fun _ _ _ _ _ _ us hl => match us, hl with | [_], _ => rfl
  have F_way_of_rules := fun_mk (st := s_way_of_rules) l_way_of_rules c_way_of_rules k_way_of_rules
  have B_way_of_rules := F_way_of_rules.binds (ps := ["rules", "begin", "goal"]) fun _ _ _ _ _ _ us hl => match us, hl with | [_, _, _], _ => rfl
  have F_ring_of_rules := fun_mk (st := s_ring_of_rules) l_ring_of_rules c_ring_of_rules k_ring_of_rules
  have B_ring_of_rules := F_ring_of_rules.binds (ps := ["rules"]) fun _ _ _ _ _ _ us hl => match us, hl with | [_], _ => rfl
  have F_bar := fun_mk (st := s_bar) l_bar c_bar k_bar
  have B_bar := F_bar.binds (ps := ["rules"]) fun _ _ _ _ _ _ us hl => match us, hl with | [_], _ => rfl
  have F_is_number := fun_mk (st := s_is_number) l_is_number c_is_number k_is_number
  have B_is_number := F_is_number.binds (ps := ["rules", "thing"]) fun _ _ _ _ _ _ us hl => match us, hl with | [_, _], _ => rfl
  have F_is_two := fun_mk (st := s_is_two) l_is_two c_is_two k_is_two
  have B_is_two := F_is_two.binds (ps := ["rules", "i", "j"]) fun _ _ _ _ _ _ us hl => match us, hl with | [_, _, _], _ => rfl
  have F_is_ring := fun_mk (st := s_is_ring) l_is_ring c_is_ring k_is_ring
  have B_is_ring := F_is_ring.binds (ps := ["rules", "numbers"]) fun _ _ _ _ _ _ us hl => match us, hl with | [_, _], _ => rfl
  have F_is_bar := fun_mk (st := s_is_bar) l_is_bar c_is_bar k_is_bar
  have B_is_bar := F_is_bar.binds (ps := ["rules", "thing"]) fun _ _ _ _ _ _ us hl => match us, hl with | [_, _], _ => rfl
  have F_law_cell_at := fun_mk (st := s_law_cell_at) l_law_cell_at c_law_cell_at k_law_cell_at
  have B_law_cell_at := F_law_cell_at.binds (ps := ["script", "k"]) fun _ _ _ _ _ _ us hl => match us, hl with | [_, _], _ => rfl
  have F_law_left := fun_mk (st := s_law_left) l_law_left c_law_left k_law_left
  have B_law_left := F_law_left.binds (ps := ["script", "k"]) fun _ _ _ _ _ _ us hl => match us, hl with | [_, _], _ => rfl
  have F_law_pick := fun_mk (st := s_law_pick) l_law_pick c_law_pick k_law_pick
  have B_law_pick := F_law_pick.binds (ps := ["left", "many"]) fun _ _ _ _ _ _ us hl => match us, hl with | [_, _], _ => rfl
  have F_law_words := fun_mk (st := s_law_words) l_law_words c_law_words k_law_words
  have B_law_words := F_law_words.binds (ps := ["left"]) fun _ _ _ _ _ _ us hl => match us, hl with | [_], _ => rfl
  have F_law_constants := fun_mk (st := s_law_constants) l_law_constants c_law_constants k_law_constants
  have B_law_constants := F_law_constants.binds (ps := ["left", "words"]) fun _ _ _ _ _ _ us hl => match us, hl with | [_, _], _ => rfl
  have F_law_fresh := fun_mk (st := s_law_fresh) l_law_fresh c_law_fresh k_law_fresh
  have B_law_fresh := F_law_fresh.binds (ps := ["known"]) fun _ _ _ _ _ _ us hl => match us, hl with | [_], _ => rfl
  have F_law_group := fun_mk (st := s_law_group) l_law_group c_law_group k_law_group
  have B_law_group := F_law_group.binds (ps := ["left", "known"]) fun _ _ _ _ _ _ us hl => match us, hl with | [_, _], _ => rfl
  have F_law_any_pattern := fun_mk (st := s_law_any_pattern) l_law_any_pattern c_law_any_pattern k_law_any_pattern
  have B_law_any_pattern := F_law_any_pattern.binds (ps := ["left", "known", "constants", "fresh"]) fun _ _ _ _ _ _ us hl => match us, hl with | [_, _, _, _], _ => rfl
  have F_law_any_atom := fun_mk (st := s_law_any_atom) l_law_any_atom c_law_any_atom k_law_any_atom
  have B_law_any_atom := F_law_any_atom.binds (ps := ["left", "shape", "known", "constants", "fresh"]) fun _ _ _ _ _ _ us hl => match us, hl with | [_, _, _, _, _], _ => rfl
  have F_law_any_part := fun_mk (st := s_law_any_part) l_law_any_part c_law_any_part k_law_any_part
  have B_law_any_part := F_law_any_part.binds (ps := ["left", "shapes", "known", "constants"]) fun _ _ _ _ _ _ us hl => match us, hl with | [_, _, _, _], _ => rfl
  have F_law_any_rule := fun_mk (st := s_law_any_rule) l_law_any_rule c_law_any_rule k_law_any_rule
  have B_law_any_rule := F_law_any_rule.binds (ps := ["left", "shapes", "constants"]) fun _ _ _ _ _ _ us hl => match us, hl with | [_, _, _], _ => rfl
  have F_law_any_shapes := fun_mk (st := s_law_any_shapes) l_law_any_shapes c_law_any_shapes k_law_any_shapes
  have B_law_any_shapes := F_law_any_shapes.binds (ps := ["left", "words"]) fun _ _ _ _ _ _ us hl => match us, hl with | [_, _], _ => rfl
  have F_law_set := fun_mk (st := s_law_set) l_law_set c_law_set k_law_set
  have B_law_set := F_law_set.binds (ps := ["script", "k"]) fun _ _ _ _ _ _ us hl => match us, hl with | [_, _], _ => rfl
  have F_law_looks := fun_mk (st := s_law_looks) l_law_looks c_law_looks k_law_looks
  have B_law_looks := F_law_looks.binds (ps := ["rule"]) fun _ _ _ _ _ _ us hl => match us, hl with | [_], _ => rfl
  have F_law_shape_of := fun_mk (st := s_law_shape_of) l_law_shape_of c_law_shape_of k_law_shape_of
  have B_law_shape_of := F_law_shape_of.binds (ps := ["rule"]) fun _ _ _ _ _ _ us hl => match us, hl with | [_], _ => rfl
  have F_law_is_two := fun_mk (st := s_law_is_two) l_law_is_two c_law_is_two k_law_is_two
  have B_law_is_two := F_law_is_two.binds (ps := ["rules", "i", "j"]) fun _ _ _ _ _ _ us hl => match us, hl with | [_, _, _], _ => rfl
  have F_law_number := fun_mk (st := s_law_number) l_law_number c_law_number k_law_number
  have B_law_number := F_law_number.binds (ps := ["rules", "k"]) fun _ _ _ _ _ _ us hl => match us, hl with | [_, _], _ => rfl
  have F_law_is_ring := fun_mk (st := s_law_is_ring) l_law_is_ring c_law_is_ring k_law_is_ring
  have B_law_is_ring := F_law_is_ring.binds (ps := ["rules", "numbers"]) fun _ _ _ _ _ _ us hl => match us, hl with | [_, _], _ => rfl
  have F_law_is_bar := fun_mk (st := s_law_is_bar) l_law_is_bar c_law_is_bar k_law_is_bar
  have B_law_is_bar := F_law_is_bar.binds (ps := ["rules", "thing"]) fun _ _ _ _ _ _ us hl => match us, hl with | [_, _], _ => rfl
  have F_law_rings := fun_mk (st := s_law_rings) l_law_rings c_law_rings k_law_rings
  have B_law_rings := F_law_rings.binds (ps := ["numbers", "many"]) fun _ _ _ _ _ _ us hl => match us, hl with | [_, _], _ => rfl
  have F_law_twos := fun_mk (st := s_law_twos) l_law_twos c_law_twos k_law_twos
  have B_law_twos := F_law_twos.binds (ps := ["numbers", "many"]) fun _ _ _ _ _ _ us hl => match us, hl with | [_, _], _ => rfl
  have F_law_long := fun_mk (st := s_law_long) l_law_long c_law_long k_law_long
  have B_law_long := F_law_long.binds (ps := ["left", "words"]) fun _ _ _ _ _ _ us hl => match us, hl with | [_, _], _ => rfl
  have A : All K mg := ⟨T, ⟨_, _, F_shape_of, PySem.W.mg_of X G a_shape_of, B_shape_of⟩, ⟨_, _, F_rule_shape, PySem.W.mg_of X G a_rule_shape, B_rule_shape⟩, ⟨_, _, F_looked_at, PySem.W.mg_of X G a_looked_at, B_looked_at⟩, ⟨_, _, F_two_of_one_shape, PySem.W.mg_of X G a_two_of_one_shape, B_two_of_one_shape⟩, ⟨_, _, F_way_of_rules, PySem.W.mg_of X G a_way_of_rules, B_way_of_rules⟩, ⟨_, _, F_ring_of_rules, PySem.W.mg_of X G a_ring_of_rules, B_ring_of_rules⟩, ⟨_, _, F_bar, PySem.W.mg_of X G a_bar, B_bar⟩, ⟨_, _, F_is_number, PySem.W.mg_of X G a_is_number, B_is_number⟩, ⟨_, _, F_is_two, PySem.W.mg_of X G a_is_two, B_is_two⟩, ⟨_, _, F_is_ring, PySem.W.mg_of X G a_is_ring, B_is_ring⟩, ⟨_, _, F_is_bar, PySem.W.mg_of X G a_is_bar, B_is_bar⟩, ⟨_, _, F_law_cell_at, PySem.W.mg_of X G a_law_cell_at, B_law_cell_at⟩, ⟨_, _, F_law_left, PySem.W.mg_of X G a_law_left, B_law_left⟩, ⟨_, _, F_law_pick, PySem.W.mg_of X G a_law_pick, B_law_pick⟩, ⟨_, _, F_law_words, PySem.W.mg_of X G a_law_words, B_law_words⟩, ⟨_, _, F_law_constants, PySem.W.mg_of X G a_law_constants, B_law_constants⟩, ⟨_, _, F_law_fresh, PySem.W.mg_of X G a_law_fresh, B_law_fresh⟩, ⟨_, _, F_law_group, PySem.W.mg_of X G a_law_group, B_law_group⟩, ⟨_, _, F_law_any_pattern, PySem.W.mg_of X G a_law_any_pattern, B_law_any_pattern⟩, ⟨_, _, F_law_any_atom, PySem.W.mg_of X G a_law_any_atom, B_law_any_atom⟩, ⟨_, _, F_law_any_part, PySem.W.mg_of X G a_law_any_part, B_law_any_part⟩, ⟨_, _, F_law_any_rule, PySem.W.mg_of X G a_law_any_rule, B_law_any_rule⟩, ⟨_, _, F_law_any_shapes, PySem.W.mg_of X G a_law_any_shapes, B_law_any_shapes⟩, ⟨_, _, F_law_set, PySem.W.mg_of X G a_law_set, B_law_set⟩, ⟨_, _, F_law_looks, PySem.W.mg_of X G a_law_looks, B_law_looks⟩, ⟨_, _, F_law_shape_of, PySem.W.mg_of X G a_law_shape_of, B_law_shape_of⟩, ⟨_, _, F_law_is_two, PySem.W.mg_of X G a_law_is_two, B_law_is_two⟩, ⟨_, _, F_law_number, PySem.W.mg_of X G a_law_number, B_law_number⟩, ⟨_, _, F_law_is_ring, PySem.W.mg_of X G a_law_is_ring, B_law_is_ring⟩, ⟨_, _, F_law_is_bar, PySem.W.mg_of X G a_law_is_bar, B_law_is_bar⟩, ⟨_, _, F_law_rings, PySem.W.mg_of X G a_law_rings, B_law_rings⟩, ⟨_, _, F_law_twos, PySem.W.mg_of X G a_law_twos, B_law_twos⟩, ⟨_, _, F_law_long, PySem.W.mg_of X G a_law_long, B_law_long⟩⟩
  exact ⟨PySem.W.fnOf "law" "law" (defArgs s_law) (defBody s_law) (defScope s_law) .none kV_law dc_law pm_law an_law cd_law ct_law, fun s v => .of_eq rfl, fun base _ _ =>
    ok_law (k := 6) T (fun_mk (st := s_law) l_law c_law k_law) ((G_law_set A).mono (by omega)) ((G_law_long A).mono (by omega)) ((G_law_left A).mono (by omega)) ((G_law_words A).mono (by omega)) ((G_bar A).mono (by omega)) ((G_law_rings A).mono (by omega)) ((G_law_twos A).mono (by omega)) ((G_is_bar A).mono (by omega)) ((G_law_is_bar A).mono (by omega)) sem_law⟩
theorem walk {l : PySem.W.OpenLaw} {q : Program} {loose : List Str} {XP : (Str → Option Value) → Heap → Prop} {YP : World → Heap → Prop} {d : DefRec} {K : Params → PySem.W.Frag} (hn : l.most = some 63) (hdf : d.params.defaults = [])
    (hY : ∀ (w : World) (h : Heap), YP w h → (K w.params).In h)
    (F : ∀ (w : World) (mg : Str → Option Value) (fa : Addr) (h : Heap), (K w.params).In h → h.Ns mainGlobals mg → mg d.name = some (.ref fa) →
      ∃ fd : FuncData, (∀ (s : Shared) (u : Value), BindsTo s fd ⟨[u], []⟩ [("script", u)]) ∧ ∀ base : Heap, (K w.params).In base → base.Ns mainGlobals mg → FnG l.prog w (K w.params) mg base CX0 7 fa fd ["script"] (spD w (K w.params) mg S_law)) :
    PySem.W.WalkO q loose XP YP l.row.toRowW d [] (fun f vs => PySem.call f vs) :=
  Dl.walk_mk (n := 63) (k := 7) (x := "script") hn (by decide) hdf ⟨⟨rfl, by decide, by decide⟩, rfl⟩ hY F fun ns h => ⟨ns, rfl, h, fun _ => rfl⟩
end Kk24
open PySem PySem.W PyProof.Rows in
set_option maxRecDepth 100000 in
set_option maxHeartbeats 0 in
theorem PySem.Challenge.cw_reasonkeep_k24_things_that_are_no_bars_holds : PySem.Challenge.rw_reasonkeep_k24_things_that_are_no_bars.Holds := by
  w_on; o_law; k_head; (case hw => w_witness2)
  k_fill
  refine Kk24.walk (l := PySem.Challenge.rw_reasonkeep_k24_things_that_are_no_bars) rfl rfl (fun w h Y => PySem.W.kIn_of Y) ?F
  case F =>
    intro w mg fa h KX G hmg
    refine' Kk24.all_mk KX G hmg ?a_shape_of ?l_shape_of ?c_shape_of ?k_shape_of ?a_rule_shape ?l_rule_shape ?c_rule_shape ?k_rule_shape ?a_looked_at ?l_looked_at ?c_looked_at ?k_looked_at ?a_two_of_one_shape ?l_two_of_one_shape ?c_two_of_one_shape ?k_two_of_one_shape ?a_way_of_rules ?l_way_of_rules ?c_way_of_rules ?k_way_of_rules ?a_ring_of_rules ?l_ring_of_rules ?c_ring_of_rules ?k_ring_of_rules ?a_bar ?l_bar ?c_bar ?k_bar ?a_is_number ?l_is_number ?c_is_number ?k_is_number ?a_is_two ?l_is_two ?c_is_two ?k_is_two ?a_is_ring ?l_is_ring ?c_is_ring ?k_is_ring ?a_is_bar ?l_is_bar ?c_is_bar ?k_is_bar ?a_law_cell_at ?l_law_cell_at ?c_law_cell_at ?k_law_cell_at ?a_law_left ?l_law_left ?c_law_left ?k_law_left ?a_law_pick ?l_law_pick ?c_law_pick ?k_law_pick ?a_law_words ?l_law_words ?c_law_words ?k_law_words ?a_law_constants ?l_law_constants ?c_law_constants ?k_law_constants ?a_law_fresh ?l_law_fresh ?c_law_fresh ?k_law_fresh ?a_law_group ?l_law_group ?c_law_group ?k_law_group ?a_law_any_pattern ?l_law_any_pattern ?c_law_any_pattern ?k_law_any_pattern ?a_law_any_atom ?l_law_any_atom ?c_law_any_atom ?k_law_any_atom ?a_law_any_part ?l_law_any_part ?c_law_any_part ?k_law_any_part ?a_law_any_rule ?l_law_any_rule ?c_law_any_rule ?k_law_any_rule ?a_law_any_shapes ?l_law_any_shapes ?c_law_any_shapes ?k_law_any_shapes ?a_law_set ?l_law_set ?c_law_set ?k_law_set ?a_law_looks ?l_law_looks ?c_law_looks ?k_law_looks ?a_law_shape_of ?l_law_shape_of ?c_law_shape_of ?k_law_shape_of ?a_law_is_two ?l_law_is_two ?c_law_is_two ?k_law_is_two ?a_law_number ?l_law_number ?c_law_number ?k_law_number ?a_law_is_ring ?l_law_is_ring ?c_law_is_ring ?k_law_is_ring ?a_law_is_bar ?l_law_is_bar ?c_law_is_bar ?k_law_is_bar ?a_law_rings ?l_law_rings ?c_law_rings ?k_law_rings ?a_law_twos ?l_law_twos ?c_law_twos ?k_law_twos ?a_law_long ?l_law_long ?c_law_long ?k_law_long ?a_law ?l_law ?c_law ?k_law ?zb_all ?zb_bool ?zb_dict ?zb_enumerate ?zb_int ?zb_isinstance ?zb_len ?zb_list ?zb_max ?zb_range ?zb_set ?zb_str ?zb_tuple ?zb_zip
    (case a_shape_of => k_is)
    (case l_shape_of => k_is)
    (case c_shape_of => k_is)
    (case k_shape_of => k_is)
    (case a_rule_shape => k_is)
    (case l_rule_shape => k_is)
    (case c_rule_shape => k_is)
    (case k_rule_shape => k_is)
    (case a_looked_at => k_is)
    (case l_looked_at => k_is)
    (case c_looked_at => k_is)
    (case k_looked_at => k_is)
    (case a_two_of_one_shape => k_is)
    (case l_two_of_one_shape => k_is)
    (case c_two_of_one_shape => k_is)
    (case k_two_of_one_shape => k_is)
    (case a_way_of_rules => k_is)
    (case l_way_of_rules => k_is)
    (case c_way_of_rules => k_is)
    (case k_way_of_rules => k_is)
    (case a_ring_of_rules => k_is)
    (case l_ring_of_rules => k_is)
    (case c_ring_of_rules => k_is)
    (case k_ring_of_rules => k_is)
    (case a_bar => k_is)
    (case l_bar => k_is)
    (case c_bar => k_is)
    (case k_bar => k_is)
    (case a_is_number => k_is)
    (case l_is_number => k_is)
    (case c_is_number => k_is)
    (case k_is_number => k_is)
    (case a_is_two => k_is)
    (case l_is_two => k_is)
    (case c_is_two => k_is)
    (case k_is_two => k_is)
    (case a_is_ring => k_is)
    (case l_is_ring => k_is)
    (case c_is_ring => k_is)
    (case k_is_ring => k_is)
    (case a_is_bar => k_is)
    (case l_is_bar => k_is)
    (case c_is_bar => k_is)
    (case k_is_bar => k_is)
    (case a_law_cell_at => k_is)
    (case l_law_cell_at => k_is)
    (case c_law_cell_at => k_is)
    (case k_law_cell_at => k_is)
    (case a_law_left => k_is)
    (case l_law_left => k_is)
    (case c_law_left => k_is)
    (case k_law_left => k_is)
    (case a_law_pick => k_is)
    (case l_law_pick => k_is)
    (case c_law_pick => k_is)
    (case k_law_pick => k_is)
    (case a_law_words => k_is)
    (case l_law_words => k_is)
    (case c_law_words => k_is)
    (case k_law_words => k_is)
    (case a_law_constants => k_is)
    (case l_law_constants => k_is)
    (case c_law_constants => k_is)
    (case k_law_constants => k_is)
    (case a_law_fresh => k_is)
    (case l_law_fresh => k_is)
    (case c_law_fresh => k_is)
    (case k_law_fresh => k_is)
    (case a_law_group => k_is)
    (case l_law_group => k_is)
    (case c_law_group => k_is)
    (case k_law_group => k_is)
    (case a_law_any_pattern => k_is)
    (case l_law_any_pattern => k_is)
    (case c_law_any_pattern => k_is)
    (case k_law_any_pattern => k_is)
    (case a_law_any_atom => k_is)
    (case l_law_any_atom => k_is)
    (case c_law_any_atom => k_is)
    (case k_law_any_atom => k_is)
    (case a_law_any_part => k_is)
    (case l_law_any_part => k_is)
    (case c_law_any_part => k_is)
    (case k_law_any_part => k_is)
    (case a_law_any_rule => k_is)
    (case l_law_any_rule => k_is)
    (case c_law_any_rule => k_is)
    (case k_law_any_rule => k_is)
    (case a_law_any_shapes => k_is)
    (case l_law_any_shapes => k_is)
    (case c_law_any_shapes => k_is)
    (case k_law_any_shapes => k_is)
    (case a_law_set => k_is)
    (case l_law_set => k_is)
    (case c_law_set => k_is)
    (case k_law_set => k_is)
    (case a_law_looks => k_is)
    (case l_law_looks => k_is)
    (case c_law_looks => k_is)
    (case k_law_looks => k_is)
    (case a_law_shape_of => k_is)
    (case l_law_shape_of => k_is)
    (case c_law_shape_of => k_is)
    (case k_law_shape_of => k_is)
    (case a_law_is_two => k_is)
    (case l_law_is_two => k_is)
    (case c_law_is_two => k_is)
    (case k_law_is_two => k_is)
    (case a_law_number => k_is)
    (case l_law_number => k_is)
    (case c_law_number => k_is)
    (case k_law_number => k_is)
    (case a_law_is_ring => k_is)
    (case l_law_is_ring => k_is)
    (case c_law_is_ring => k_is)
    (case k_law_is_ring => k_is)
    (case a_law_is_bar => k_is)
    (case l_law_is_bar => k_is)
    (case c_law_is_bar => k_is)
    (case k_law_is_bar => k_is)
    (case a_law_rings => k_is)
    (case l_law_rings => k_is)
    (case c_law_rings => k_is)
    (case k_law_rings => k_is)
    (case a_law_twos => k_is)
    (case l_law_twos => k_is)
    (case c_law_twos => k_is)
    (case k_law_twos => k_is)
    (case a_law_long => k_is)
    (case l_law_long => k_is)
    (case c_law_long => k_is)
    (case k_law_long => k_is)
    (case a_law => k_is)
    (case l_law => k_is)
    (case c_law => k_is)
    (case k_law => k_is)
    (case zb_all => k_is)
    (case zb_bool => k_is)
    (case zb_dict => k_is)
    (case zb_enumerate => k_is)
    (case zb_int => k_is)
    (case zb_isinstance => k_is)
    (case zb_len => k_is)
    (case zb_list => k_is)
    (case zb_max => k_is)
    (case zb_range => k_is)
    (case zb_set => k_is)
    (case zb_str => k_is)
    (case zb_tuple => k_is)
    (case zb_zip => k_is)
