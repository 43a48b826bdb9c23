import PyProof.Rows.All
import Wide.All
import OpenK.AllK
import Wide.FinOn
import HandS.ForMost
import PySem.Challenge.RW_reasonkeep_k13_shapes
import HandS.Zip
import HandS.Wide
import HandS.IsInst
import HandS.Flow
import HandS.TupAny
import HandS.Rev
import HandS.RevRange
import HandS.More
import HandS.StrMore
import KE.KDictKeyed
import KE.KDictWalk
set_option Elab.async false
set_option linter.all false
set_option autoImplicit false
set_option maxRecDepth 100000
set_option maxHeartbeats 4000000

namespace Dl
open PySem L2

/-! ## values and stores -/
inductive D where
  | non | bl (b : Bool) | int (i : Int) | str (x : Str) | tup (ds : List D) | fls (ds : List D) | loc (l : Nat)
instance : Inhabited D := ⟨.non⟩
inductive O where
  | lst (xs : List D) | dct (kvs : List (D × D)) | ins (c : Str) (fs : List (Str × D))
abbrev Sto := List O

/-- a frozen list: the script, or one of the module; a tuple -/
def FlsAt (K : PySem.W.Frag) (H : Hp) (a : Addr) (vs : List V) : Prop := (∃ o, H a = some (.frz o (.lst vs))) ∨ SqL K (fun _ => none) a vs
def TupAt (K : PySem.W.Frag) (H : Hp) (a : Addr) (vs : List V) : Prop := H a = some (.tup vs) ∨ SqT K (fun _ => none) a vs
theorem FlsAt.sq {K : PySem.W.Frag} {H : Hp} {a : Addr} {vs : List V} (h : FlsAt K H a vs) : SqL K H a vs := by
  rcases h with ⟨o, h⟩ | h
  · exact .inl (.inr ⟨o, h⟩)
  · rcases h with (z | ⟨_, z⟩) | z
    · cases z
    · cases z
    · exact .inr z
theorem TupAt.sq {K : PySem.W.Frag} {H : Hp} {a : Addr} {vs : List V} (h : TupAt K H a vs) : SqT K H a vs := by
  rcases h with h | h
  · exact SqT.of h
  · rcases h with (z | ⟨_, z⟩) | z
    · cases z
    · cases z
    · exact .inr z

mutual
def VR (K : PySem.W.Frag) (ρ : List Addr) (H : Hp) : D → V → Prop
  | .non, v => v = .non
  | .bl b, v => v = .bl b
  | .int i, v => v = .int i
  | .str x, v => v = .str x
  | .tup ds, v => ∃ a vs, v = .ref a ∧ TupAt K H a vs ∧ VRs K ρ H ds vs
  | .fls ds, v => ∃ a vs, v = .ref a ∧ FlsAt K H a vs ∧ VRs K ρ H ds vs
  | .loc l, v => ∃ a, ρ[l]? = some a ∧ v = .ref a
def VRs (K : PySem.W.Frag) (ρ : List Addr) (H : Hp) : List D → List V → Prop
  | [], vs => vs = []
  | d :: ds, vs => ∃ v vr, vs = v :: vr ∧ VR K ρ H d v ∧ VRs K ρ H ds vr
end

/-- a key of a dict -/
def keyOf : D → Option NestedKey
  | .non => some .none
  | .bl b => some (.num (if b then 1 else 0))
  | .int i => some (.num i)
  | .str x => some (.text x)
  | .tup ds => (keysOf ds).map .tup
  | .fls _ => none
  | .loc _ => none
where keysOf : List D → Option (List NestedKey)
  | [] => some []
  | d :: ds => match keyOf d, keysOf ds with
    | some k, some ks => some (k :: ks)
    | _, _ => none

/-- what must hold so that the world (addresses ρ of the store's objects, abstract heap H) bears the object o at a -/
def EntR (w : World) (K : PySem.W.Frag) (ρ : List Addr) (H : Hp) (p : D × D) (e : DictEntry) : Prop :=
  ∃ k kv dv, keyOf p.1 = some k ∧ k.depth ≤ 8 ∧ e.hash = k.hash w ∧ VR K ρ H p.1 kv ∧ RelV kv e.key ∧ VR K ρ H p.2 dv ∧ RelV dv e.val
def DictObj (a : Addr) (es : Array DictEntry) (h : Heap) : Prop := ∃ o ep, h.get? a = some o ∧ o.ExactDict ∧ o.data = .dict es ep
def OR (w : World) (K : PySem.W.Frag) (mg : Str → Option Value) (ρ : List Addr) (H : Hp) (a : Addr) : O → Prop
  | .lst xs => ∃ vs, H a = some (.lst vs) ∧ VRs K ρ H xs vs
  | .dct kvs => (a == sysModules) = false ∧ kvs.length ≤ sizeLine ∧ (kvs.map fun p => keyOf p.1).Nodup ∧
      ∃ es, H a = some (.ext (DictObj a es)) ∧ Paired (EntR w K ρ H) kvs es.toList
  | .ins c fs => ∃ C dx vfs, H a = some (.ins C dx vfs) ∧ mg c = some (.ref C) ∧ Paired (fun p q => p.1 = q.1 ∧ VR K ρ H p.2 q.2) fs vfs

/-- the world bears the store -/
structure Wd (w : World) (K : PySem.W.Frag) (mg : Str → Option Value) (ρ : List Addr) (S : Sto) (H : Hp) : Prop where
  len : ρ.length = S.length
  nodup : ρ.Nodup
  obj : ∀ (l : Nat) (a : Addr) (o : O), ρ[l]? = some a → S[l]? = some o → OR w K mg ρ H a o

/-- the world has gone on: what is not the store's stays, the store's objects keep their addresses -/
structure Ext (ρ : List Addr) (H : Hp) (ρ' : List Addr) (H' : Hp) : Prop where
  pre : ∃ more, ρ' = ρ ++ more ∧ ∀ a ∈ more, H a = none
  keep : ∀ a o, H a = some o → a ∉ ρ → H' a = some o

theorem Ext.refl (ρ : List Addr) (H : Hp) : Ext ρ H ρ H := ⟨⟨[], by simp, by simp⟩, fun _ _ h _ => h⟩
theorem Ext.get {ρ ρ' : List Addr} {H H' : Hp} (e : Ext ρ H ρ' H') {l : Nat} {a : Addr} (h : ρ[l]? = some a) : ρ'[l]? = some a := by
  obtain ⟨more, rfl, _⟩ := e.pre
  rw [List.getElem?_append_left (List.getElem?_eq_some_iff.mp h).1]
  exact h
/-- the store's objects are none of the tuples and frozen things -/
def Sep (ρ : List Addr) (H : Hp) : Prop := ∀ a ∈ ρ, ∃ o, H a = some o ∧ (∀ vs, o ≠ .tup vs) ∧ ∀ u x, o ≠ .frz u x
theorem Wd.sep {w : World} {K : PySem.W.Frag} {mg : Str → Option Value} {ρ : List Addr} {S : Sto} {H : Hp} (W : Wd w K mg ρ S H) : Sep ρ H := by
  intro a ha
  obtain ⟨l, hl, e⟩ := List.mem_iff_getElem.mp ha
  have h1 : ρ[l]? = some a := by rw [List.getElem?_eq_getElem hl, e]
  have hS : l < S.length := by rw [← W.len]; exact hl
  have h2 := W.obj l a S[l] h1 (List.getElem?_eq_getElem hS)
  cases hO : S[l] with
  | lst xs =>
    rw [hO] at h2
    obtain ⟨vs, h, _⟩ := h2
    exact ⟨_, h, (fun vs q => by cases q), (fun u x q => by cases q)⟩
  | dct kvs =>
    rw [hO] at h2
    obtain ⟨_, _, _, es, h, _⟩ := h2
    exact ⟨_, h, (fun vs q => by cases q), (fun u x q => by cases q)⟩
  | ins c fs =>
    rw [hO] at h2
    obtain ⟨C, dx, vfs, h, _⟩ := h2
    exact ⟨_, h, (fun vs q => by cases q), (fun u x q => by cases q)⟩
theorem Sep.tup {ρ : List Addr} {H : Hp} (s : Sep ρ H) {a : Addr} {vs : List V} (h : H a = some (.tup vs)) : a ∉ ρ := fun ha => by
  obtain ⟨o, h1, h2, _⟩ := s a ha
  rw [h] at h1
  exact h2 vs (Option.some.inj h1).symm
theorem Sep.frz {ρ : List Addr} {H : Hp} (s : Sep ρ H) {a : Addr} {u : Obj} {x : HO} (h : H a = some (.frz u x)) : a ∉ ρ := fun ha => by
  obtain ⟨o, h1, _, h2⟩ := s a ha
  rw [h] at h1
  exact h2 u x (Option.some.inj h1).symm
theorem Ext.trans {ρ ρ1 ρ2 : List Addr} {H H1 H2 : Hp} (s : Sep ρ1 H1) (a : Ext ρ H ρ1 H1) (b : Ext ρ1 H1 ρ2 H2) : Ext ρ H ρ2 H2 := by
  obtain ⟨m1, rfl, n1⟩ := a.pre
  obtain ⟨m2, rfl, n2⟩ := b.pre
  have nin : ∀ c o, H c = some o → c ∉ ρ → c ∉ ρ ++ m1 := fun c o hc hr hm => by
    rcases List.mem_append.mp hm with z | z
    · exact hr z
    · rw [n1 c z] at hc
      cases hc
  refine ⟨⟨m1 ++ m2, by rw [List.append_assoc], fun c hc => ?_⟩, fun c o hc hr => b.keep c o (a.keep c o hc hr) (nin c o hc hr)⟩
  rcases List.mem_append.mp hc with z | z
  · exact n1 c z
  · cases q : H c with
    | none => rfl
    | some o =>
      by_cases hr : c ∈ ρ
      · obtain ⟨o', h1, _⟩ := s c (List.mem_append_left _ hr)
        rw [n2 c z] at h1
        cases h1
      · have := a.keep c o q hr
        rw [n2 c z] at this
        cases this

theorem TupAt.keep {K : PySem.W.Frag} {H H' : Hp} {a : Addr} {vs : List V} (h : TupAt K H a vs) (k : H a = some (.tup vs) → H' a = some (.tup vs)) : TupAt K H' a vs := h.imp k id
theorem FlsAt.keep {K : PySem.W.Frag} {H H' : Hp} {a : Addr} {vs : List V} (h : FlsAt K H a vs) (k : ∀ o, H a = some (.frz o (.lst vs)) → H' a = some (.frz o (.lst vs))) : FlsAt K H' a vs := by
  rcases h with ⟨o, h⟩ | h
  · exact .inl ⟨o, k o h⟩
  · exact .inr h
/-- what values lean on -/
structure VX (ρ : List Addr) (H : Hp) (ρ' : List Addr) (H' : Hp) : Prop where
  get : ∀ (l : Nat) (a : Addr), ρ[l]? = some a → ρ'[l]? = some a
  tup : ∀ a vs, H a = some (.tup vs) → H' a = some (.tup vs)
  frz : ∀ a o u, H a = some (.frz o u) → H' a = some (.frz o u)
theorem Ext.vx {ρ ρ' : List Addr} {H H' : Hp} (s : Sep ρ H) (e : Ext ρ H ρ' H') : VX ρ H ρ' H' :=
  ⟨fun _ _ h => e.get h, fun a vs h => e.keep a _ h (s.tup h), fun a o u h => e.keep a _ h (s.frz h)⟩
theorem vx_upd {ρ : List Addr} {H : Hp} {a : Addr} {u : HO} {o : HO} (h : H a = some o) (h1 : ∀ vs, o ≠ .tup vs) (h2 : ∀ x y, o ≠ .frz x y) : VX ρ H ρ (upd H a u) :=
  ⟨fun _ _ h => h, fun b vs e => by
    rw [upd_ne (ne_of e h (fun z => h1 vs z.symm))]
    exact e, fun b x y e => by
    rw [upd_ne (ne_of e h (fun z => h2 x y z.symm))]
    exact e⟩
mutual
theorem VR.vx {K : PySem.W.Frag} {ρ ρ' : List Addr} {H H' : Hp} (e : VX ρ H ρ' H') : ∀ (d : D) (v : V), VR K ρ H d v → VR K ρ' H' d v
  | .non, v, h => by unfold VR at h ⊢; exact h
  | .bl b, v, h => by unfold VR at h ⊢; exact h
  | .int i, v, h => by unfold VR at h ⊢; exact h
  | .str x, v, h => by unfold VR at h ⊢; exact h
  | .tup ds, v, h => by
    unfold VR at h ⊢
    obtain ⟨a, vs, h1, h2, h3⟩ := h
    exact ⟨a, vs, h1, h2.keep fun q => e.tup a _ q, VRs.vx e ds vs h3⟩
  | .fls ds, v, h => by
    unfold VR at h ⊢
    obtain ⟨a, vs, h1, h2, h3⟩ := h
    exact ⟨a, vs, h1, h2.keep fun o q => e.frz a _ _ q, VRs.vx e ds vs h3⟩
  | .loc l, v, h => by
    unfold VR at h ⊢
    obtain ⟨a, h1, h2⟩ := h
    exact ⟨a, e.get _ _ h1, h2⟩
theorem VRs.vx {K : PySem.W.Frag} {ρ ρ' : List Addr} {H H' : Hp} (e : VX ρ H ρ' H') : ∀ (ds : List D) (vs : List V), VRs K ρ H ds vs → VRs K ρ' H' ds vs
  | [], vs, h => by unfold VRs at h ⊢; exact h
  | d :: ds, vs, h => by
    unfold VRs at h ⊢
    obtain ⟨v, vr, h1, h2, h3⟩ := h
    exact ⟨v, vr, h1, VR.vx e d v h2, VRs.vx e ds vr h3⟩
end
theorem VR.ext {K : PySem.W.Frag} {ρ ρ' : List Addr} {H H' : Hp} (s : Sep ρ H) (e : Ext ρ H ρ' H') (d : D) (v : V) (h : VR K ρ H d v) : VR K ρ' H' d v := VR.vx (e.vx s) d v h
theorem VRs.ext {K : PySem.W.Frag} {ρ ρ' : List Addr} {H H' : Hp} (s : Sep ρ H) (e : Ext ρ H ρ' H') (ds : List D) (vs : List V) (h : VRs K ρ H ds vs) : VRs K ρ' H' ds vs := VRs.vx (e.vx s) ds vs h

theorem VRs.nil {K : PySem.W.Frag} {ρ : List Addr} {H : Hp} : VRs K ρ H [] [] := by unfold VRs; rfl
theorem VRs.cons {K : PySem.W.Frag} {ρ : List Addr} {H : Hp} {d : D} {ds : List D} {v : V} {vs : List V} (h : VR K ρ H d v) (t : VRs K ρ H ds vs) : VRs K ρ H (d :: ds) (v :: vs) := by
  unfold VRs
  exact ⟨v, vs, rfl, h, t⟩
theorem VRs.length {K : PySem.W.Frag} {ρ : List Addr} {H : Hp} : ∀ {ds : List D} {vs : List V}, VRs K ρ H ds vs → vs.length = ds.length
  | [], vs, h => by unfold VRs at h; subst h; rfl
  | d :: ds, vs, h => by
    unfold VRs at h
    obtain ⟨v, vr, rfl, _, h3⟩ := h
    simp [VRs.length h3]
theorem VRs.get {K : PySem.W.Frag} {ρ : List Addr} {H : Hp} : ∀ {ds : List D} {vs : List V} {i : Nat} {d : D}, VRs K ρ H ds vs → ds[i]? = some d → ∃ v, vs[i]? = some v ∧ VR K ρ H d v
  | [], _, _, _, _, e => by simp at e
  | d :: ds, vs, i, x, h, e => by
    unfold VRs at h
    obtain ⟨v, vr, rfl, h2, h3⟩ := h
    cases i with
    | zero =>
      simp at e
      subst e
      exact ⟨v, rfl, h2⟩
    | succ i =>
      obtain ⟨v', h4, h5⟩ := VRs.get (i := i) (d := x) h3 (by simpa using e)
      exact ⟨v', by simpa using h4, h5⟩
theorem VRs.append {K : PySem.W.Frag} {ρ : List Addr} {H : Hp} : ∀ {ds es : List D} {vs us : List V}, VRs K ρ H ds vs → VRs K ρ H es us → VRs K ρ H (ds ++ es) (vs ++ us)
  | [], _, _, _, h, t => by
    unfold VRs at h
    subst h
    exact t
  | d :: ds, es, vs, us, h, t => by
    unfold VRs at h
    obtain ⟨v, vr, rfl, h2, h3⟩ := h
    exact VRs.cons h2 (VRs.append h3 t)
theorem VRs.snoc {K : PySem.W.Frag} {ρ : List Addr} {H : Hp} {ds : List D} {d : D} {vs : List V} {v : V} (h : VRs K ρ H ds vs) (t : VR K ρ H d v) : VRs K ρ H (ds ++ [d]) (vs ++ [v]) := h.append (.cons t .nil)
theorem VRs.drop {K : PySem.W.Frag} {ρ : List Addr} {H : Hp} : ∀ {ds : List D} {vs : List V} (n : Nat), VRs K ρ H ds vs → VRs K ρ H (ds.drop n) (vs.drop n)
  | _, _, 0, h => h
  | [], vs, n + 1, h => by
    unfold VRs at h
    subst h
    exact VRs.nil
  | d :: ds, vs, n + 1, h => by
    unfold VRs at h
    obtain ⟨v, vr, rfl, h2, h3⟩ := h
    exact VRs.drop n h3
theorem VRs.take {K : PySem.W.Frag} {ρ : List Addr} {H : Hp} : ∀ {ds : List D} {vs : List V} (n : Nat), VRs K ρ H ds vs → VRs K ρ H (ds.take n) (vs.take n)
  | _, _, 0, h => VRs.nil
  | [], vs, n + 1, h => by
    unfold VRs at h
    subst h
    exact VRs.nil
  | d :: ds, vs, n + 1, h => by
    unfold VRs at h
    obtain ⟨v, vr, rfl, h2, h3⟩ := h
    exact VRs.cons h2 (VRs.take n h3)
theorem VRs.set {K : PySem.W.Frag} {ρ : List Addr} {H : Hp} {d : D} {v : V} (r : VR K ρ H d v) : ∀ {ds : List D} {vs : List V} (n : Nat), VRs K ρ H ds vs → VRs K ρ H (ds.set n d) (vs.set n v)
  | [], vs, n, h => by
    unfold VRs at h
    subst h
    exact VRs.nil
  | d :: ds, vs, 0, h => by
    unfold VRs at h
    obtain ⟨v, vr, rfl, h2, h3⟩ := h
    exact VRs.cons r h3
  | d :: ds, vs, n + 1, h => by
    unfold VRs at h
    obtain ⟨v, vr, rfl, h2, h3⟩ := h
    exact VRs.cons h2 (VRs.set r n h3)

theorem EntR.vx {w : World} {K : PySem.W.Frag} {ρ ρ' : List Addr} {H H' : Hp} (x : VX ρ H ρ' H') {p : D × D} {e : DictEntry} (h : EntR w K ρ H p e) : EntR w K ρ' H' p e := by
  obtain ⟨k, kv, dv, h1, h2, h3, h4, h5, h6, h7⟩ := h
  exact ⟨k, kv, dv, h1, h2, h3, VR.vx x _ _ h4, h5, VR.vx x _ _ h6, h7⟩
theorem OR.vx {w : World} {K : PySem.W.Frag} {mg : Str → Option Value} {ρ ρ' : List Addr} {H H' : Hp} {a : Addr} {o : O} (x : VX ρ H ρ' H') (k : ∀ u, H a = some u → H' a = some u) (h : OR w K mg ρ H a o) : OR w K mg ρ' H' a o := by
  cases o with
  | lst xs =>
    obtain ⟨vs, h1, h2⟩ := h
    exact ⟨vs, k _ h1, VRs.vx x _ _ h2⟩
  | dct kvs =>
    obtain ⟨h1, h2, h3, es, h4, h5⟩ := h
    exact ⟨h1, h2, h3, es, k _ h4, Paired.mapP h5 fun p q z => z.vx x⟩
  | ins c fs =>
    obtain ⟨C, dx, vfs, h1, h2, h3⟩ := h
    exact ⟨C, dx, vfs, k _ h1, h2, Paired.mapP h3 fun p q z => ⟨z.1, VR.vx x _ _ z.2⟩⟩
theorem OR.ext {w : World} {K : PySem.W.Frag} {mg : Str → Option Value} {ρ ρ' : List Addr} {H H' : Hp} {a : Addr} {o : O} (s : Sep ρ H) (x : Ext ρ H ρ' H') (k : ∀ u, H a = some u → H' a = some u) (h : OR w K mg ρ H a o) : OR w K mg ρ' H' a o := h.vx (x.vx s) k

section
variable {w : World} {K : PySem.W.Frag} {mg : Str → Option Value} {ρ ρ' : List Addr} {S : Sto} {H H' : Hp} {a p : Addr} {l : Nat}
theorem Wd.tracked (W : Wd w K mg ρ S H) (h : ρ[l]? = some a) : ∃ o, S[l]? = some o ∧ OR w K mg ρ H a o ∧ ∃ u, H a = some u := by
  have hl : l < S.length := by
    rw [← W.len]
    exact (List.getElem?_eq_some_iff.mp h).1
  have h2 := W.obj l a S[l] h (List.getElem?_eq_getElem hl)
  obtain ⟨u, hu, _⟩ := W.sep a (List.mem_of_getElem? h)
  exact ⟨_, List.getElem?_eq_getElem hl, h2, u, hu⟩
theorem Wd.at (W : Wd w K mg ρ S H) {o : O} (h : S[l]? = some o) : ∃ a, ρ[l]? = some a ∧ OR w K mg ρ H a o := by
  have hl : l < ρ.length := by
    rw [W.len]
    exact (List.getElem?_eq_some_iff.mp h).1
  exact ⟨_, List.getElem?_eq_getElem hl, W.obj _ _ _ (List.getElem?_eq_getElem hl) h⟩
theorem Wd.notin (W : Wd w K mg ρ S H) (h : H p = none) : p ∉ ρ := fun hp => by
  obtain ⟨u, hu, _⟩ := W.sep p hp
  rw [h] at hu
  cases hu
/-- all that was tracked is kept -/
theorem ext_same (k : ∀ b o, H b = some o → H' b = some o) : Ext ρ H ρ H' := ⟨⟨[], by simp, by simp⟩, fun b o h _ => k b o h⟩
theorem keep_upd {u : HO} (h : H p = none) : ∀ b o, H b = some o → upd H p u b = some o := fun b o e => by
  rw [upd_ne (ne_of_none e h)]
  exact e
theorem ext_new {u : HO} (h : H p = none) : Ext ρ H ρ (upd H p u) := ext_same (keep_upd h)
theorem Wd.same (W : Wd w K mg ρ S H) (k : ∀ b o, H b = some o → H' b = some o) : Wd w K mg ρ S H' :=
  ⟨W.len, W.nodup, fun l a o h1 h2 => (W.obj l a o h1 h2).ext W.sep (ext_same k) fun u q => k a u q⟩
theorem Wd.laid {u : HO} (W : Wd w K mg ρ S H) (h : H p = none) : Wd w K mg ρ S (upd H p u) := W.same (keep_upd h)
theorem ext_alloc {u : HO} (h : H p = none) : Ext ρ H (ρ ++ [p]) (upd H p u) :=
  ⟨⟨[p], rfl, fun c hc => by
    have e : c = p := by simpa using hc
    rw [e, h]⟩, fun b o e _ => keep_upd h b o e⟩
/-- a new object of the store -/
theorem Wd.alloc {u : HO} {o : O} (W : Wd w K mg ρ S H) (h : H p = none) (new : OR w K mg (ρ ++ [p]) (upd H p u) p o) : Wd w K mg (ρ ++ [p]) (S ++ [o]) (upd H p u) := by
  refine ⟨by simp [W.len], ?_, fun l a o' h1 h2 => ?_⟩
  · rw [List.nodup_append]
    refine ⟨W.nodup, by simp, fun x hx y hy e => ?_⟩
    have e2 : y = p := by simpa using hy
    rw [e, e2] at hx
    exact W.notin h hx
  · rcases Nat.lt_trichotomy l ρ.length with q | q | q
    · rw [List.getElem?_append_left q] at h1
      rw [List.getElem?_append_left (by rw [← W.len]; exact q)] at h2
      exact (W.obj l a o' h1 h2).ext W.sep (ext_alloc h) fun v hv => keep_upd h a v hv
    · subst q
      rw [List.getElem?_concat_length] at h1
      rw [W.len, List.getElem?_concat_length] at h2
      cases h1
      cases h2
      exact new
    · rw [List.getElem?_eq_none (by simp; omega)] at h1
      cases h1
theorem ext_write {u : HO} (h : a ∈ ρ) : Ext ρ H ρ (upd H a u) :=
  ⟨⟨[], by simp, by simp⟩, fun b o e n => by
    have ne : b ≠ a := fun z => n (z ▸ h)
    rw [upd_ne ne]
    exact e⟩
/-- an object of the store is changed -/
theorem Wd.write {u : HO} {o : O} (W : Wd w K mg ρ S H) (h : ρ[l]? = some a) (new : OR w K mg ρ (upd H a u) a o) : Wd w K mg ρ (S.set l o) (upd H a u) := by
  have ha : a ∈ ρ := List.mem_of_getElem? h
  refine ⟨by simp [W.len], W.nodup, fun j b o' h1 h2 => ?_⟩
  by_cases hj : l = j
  · subst hj
    rw [h] at h1
    cases h1
    have hl : l < S.length := by
      rw [← W.len]
      exact (List.getElem?_eq_some_iff.mp h).1
    rw [List.getElem?_set_self hl] at h2
    cases h2
    exact new
  · rw [List.getElem?_set_ne hj] at h2
    have ne : b ≠ a := fun z => by
      subst z
      have i1 := (List.getElem?_eq_some_iff.mp h)
      have i2 := (List.getElem?_eq_some_iff.mp h1)
      obtain ⟨p1, q1⟩ := i1
      obtain ⟨p2, q2⟩ := i2
      exact hj ((List.getElem_inj W.nodup).mp (q1.trans q2.symm))
    exact (W.obj j b o' h1 h2).ext W.sep (ext_write ha) fun v hv => by
      rw [upd_ne ne]
      exact hv
/-- what is not the store's is changed (no tuple, no frozen thing) -/
theorem Wd.aside {u o : HO} (W : Wd w K mg ρ S H) (hp : p ∉ ρ) (h : H p = some o) (h1 : ∀ vs, o ≠ .tup vs) (h2 : ∀ x y, o ≠ .frz x y) : Wd w K mg ρ S (upd H p u) :=
  ⟨W.len, W.nodup, fun l a o' q1 q2 => (W.obj l a o' q1 q2).vx (vx_upd h h1 h2) fun v hv => by
    rw [upd_ne (fun z => hp (by rw [← z]; exact List.mem_of_getElem? q1))]
    exact hv⟩
/-- an object that stands becomes the store's -/
theorem Wd.adopt {o : O} (W : Wd w K mg ρ S H) (hp : p ∉ ρ) (new : OR w K mg (ρ ++ [p]) H p o) : Wd w K mg (ρ ++ [p]) (S ++ [o]) H := by
  have vx : VX ρ H (ρ ++ [p]) H := ⟨fun l a h => by
    rw [List.getElem?_append_left (List.getElem?_eq_some_iff.mp h).1]
    exact h, fun _ _ h => h, fun _ _ _ h => h⟩
  refine ⟨by simp [W.len], ?_, fun l a o' h1 h2 => ?_⟩
  · rw [List.nodup_append]
    refine ⟨W.nodup, by simp, fun x hx y hy e => ?_⟩
    have e2 : y = p := by simpa using hy
    rw [e, e2] at hx
    exact hp hx
  · rcases Nat.lt_trichotomy l ρ.length with q | q | q
    · rw [List.getElem?_append_left q] at h1
      rw [List.getElem?_append_left (by rw [← W.len]; exact q)] at h2
      exact (W.obj l a o' h1 h2).vx vx fun v hv => hv
    · subst q
      rw [List.getElem?_concat_length] at h1
      rw [W.len, List.getElem?_concat_length] at h2
      cases h1
      cases h2
      exact new
    · rw [List.getElem?_eq_none (by simp; omega)] at h1
      cases h1
end
end Dl

namespace Dl
open PySem L2

/-! ## judgements: a piece of syntax and its predicate transformer over (slots, store) -/
abbrev DEnv := List (Option D)
abbrev DQ := D → Sto → Prop
abbrev WE := DEnv → Sto → DQ → Prop
abbrev WT := DEnv → Sto → (Bool → Sto → Prop) → Prop
abbrev WA := DEnv → Sto → (List D → Sto → Prop) → Prop
structure DEnds where
  nx : DEnv → Sto → Prop
  rt : DQ
  bk : DEnv → Sto → Prop := fun _ _ => False
  ct : DEnv → Sto → Prop := fun _ _ => False
abbrev WS := DEnds → DEnv → Sto → Prop
abbrev DSp := List D → Sto → DQ → Prop

def ER (K : PySem.W.Frag) (ρ : List Addr) (H : Hp) (τ : DEnv) (σ : St) : Prop := σ.length = τ.length ∧ ∀ (i : Nat) (d : D), τ[i]? = some (some d) → ∃ v, σ[i]? = some (some v) ∧ VR K ρ H d v
theorem ER.ext {K : PySem.W.Frag} {ρ ρ' : List Addr} {H H' : Hp} {τ : DEnv} {σ : St} (e : ER K ρ H τ σ) (s : Sep ρ H) (x : Ext ρ H ρ' H') : ER K ρ' H' τ σ :=
  ⟨e.1, fun i d h => let ⟨v, h1, h2⟩ := e.2 i d h; ⟨v, h1, h2.ext s x⟩⟩
theorem ER.set {K : PySem.W.Frag} {ρ : List Addr} {H : Hp} {τ : DEnv} {σ : St} {i : Nat} {d : D} {v : V} (e : ER K ρ H τ σ) (r : VR K ρ H d v) : ER K ρ H (τ.set i (some d)) (σ.set i (some v)) := by
  refine ⟨by simp [e.1], fun j c h => ?_⟩
  by_cases hj : i = j
  · subst hj
    have hl : i < τ.length := by
      have := (List.getElem?_eq_some_iff.mp h).1
      simpa using this
    rw [List.getElem?_set_self hl] at h
    cases h
    exact ⟨v, by rw [List.getElem?_set_self (by rw [e.1]; exact hl)], r⟩
  · rw [List.getElem?_set_ne hj] at h ⊢
    exact e.2 j c h

section
variable (X : Cx)
abbrev XW (ρ : List Addr) (S : Sto) (H : Hp) : Prop := Wd X.w X.K X.mg ρ S H
/-- what is wanted of a value and a store gives what is wanted of V and the heap -/
def PassE (ρ : List Addr) (H : Hp) (R : DQ) (Q : VK) : Prop := ∀ d S', R d S' → ∀ ρ' H' v, Ext ρ H ρ' H' → XW X ρ' S' H' → VR X.K ρ' H' d v → Q v H'
def PassT (ρ : List Addr) (H : Hp) (R : Bool → Sto → Prop) (Q : Bool → Hp → Prop) : Prop := ∀ b S', R b S' → ∀ ρ' H', Ext ρ H ρ' H' → XW X ρ' S' H' → Q b H'
def PassA (ρ : List Addr) (H : Hp) (R : List D → Sto → Prop) (Q : List V → Hp → Prop) : Prop := ∀ ds S', R ds S' → ∀ ρ' H' vs, Ext ρ H ρ' H' → XW X ρ' S' H' → VRs X.K ρ' H' ds vs → Q vs H'
def PassN (ρ : List Addr) (H : Hp) (R : DEnv → Sto → Prop) (Q : St → Hp → Prop) : Prop := ∀ τ S', R τ S' → ∀ ρ' H' σ, Ext ρ H ρ' H' → XW X ρ' S' H' → ER X.K ρ' H' τ σ → Q σ H'
def dE (w : WE) : TE := fun σ H Q => ∃ ρ τ S R, XW X ρ S H ∧ ER X.K ρ H τ σ ∧ w τ S R ∧ PassE X ρ H R Q
def dT (w : WT) : TT := fun σ H Q => ∃ ρ τ S R, XW X ρ S H ∧ ER X.K ρ H τ σ ∧ w τ S R ∧ PassT X ρ H R Q
def dA (w : WA) : TA := fun σ H Q => ∃ ρ τ S R, XW X ρ S H ∧ ER X.K ρ H τ σ ∧ w τ S R ∧ PassA X ρ H R Q
def dS (w : WS) : TS := fun D σ H => ∃ ρ τ S R, XW X ρ S H ∧ ER X.K ρ H τ σ ∧ w R τ S ∧ PassN X ρ H R.nx D.nx ∧ PassE X ρ H R.rt D.rt ∧ PassN X ρ H R.bk D.bk ∧ PassN X ρ H R.ct D.ct
end
section
variable {X : Cx} {ρ ρ' : List Addr} {H H' : Hp} {S' : Sto}
theorem PassE.ext {R : DQ} {Q : VK} (p : PassE X ρ H R Q) (W : XW X ρ' S' H') (x : Ext ρ H ρ' H') : PassE X ρ' H' R Q := fun d S2 hR ρ2 H2 v x2 => p d S2 hR ρ2 H2 v (x.trans W.sep x2)
theorem PassT.ext {R : Bool → Sto → Prop} {Q : Bool → Hp → Prop} (p : PassT X ρ H R Q) (W : XW X ρ' S' H') (x : Ext ρ H ρ' H') : PassT X ρ' H' R Q := fun d S2 hR ρ2 H2 x2 => p d S2 hR ρ2 H2 (x.trans W.sep x2)
theorem PassA.ext {R : List D → Sto → Prop} {Q : List V → Hp → Prop} (p : PassA X ρ H R Q) (W : XW X ρ' S' H') (x : Ext ρ H ρ' H') : PassA X ρ' H' R Q := fun d S2 hR ρ2 H2 v x2 => p d S2 hR ρ2 H2 v (x.trans W.sep x2)
theorem PassN.ext {R : DEnv → Sto → Prop} {Q : St → Hp → Prop} (p : PassN X ρ H R Q) (W : XW X ρ' S' H') (x : Ext ρ H ρ' H') : PassN X ρ' H' R Q := fun d S2 hR ρ2 H2 v x2 => p d S2 hR ρ2 H2 v (x.trans W.sep x2)
end
section
variable {X : Cx} {e : Expr} {st : Stmt} {sts : List Stmt} {es : List Expr}
theorem PE.imp {t t' : TE} (h : PE X e t) (k : ∀ σ H Q, t' σ H Q → t σ H Q) : PE X e t' := ⟨fun pins s σ H Q I q => h.run pins s σ H Q I (k σ H Q q)⟩
theorem PT.imp {t t' : TT} (h : PT X e t) (k : ∀ σ H Q, t' σ H Q → t σ H Q) : PT X e t' := ⟨fun pins s σ H Q I q => h.run pins s σ H Q I (k σ H Q q)⟩
theorem PW.imp {t t' : TT} (h : PW X e t) (k : ∀ σ H Q, t' σ H Q → t σ H Q) : PW X e t' := ⟨fun wh pins s σ H Q I q => h.run wh pins s σ H Q I (k σ H Q q)⟩
theorem PA.imp {t t' : TA} (h : PA X es t) (k : ∀ σ H Q, t' σ H Q → t σ H Q) : PA X es t' := ⟨fun p pins s σ H Q I q => h.run p pins s σ H Q I (k σ H Q q)⟩
theorem PS.imp {t t' : TS} (h : PS X st t) (k : ∀ D σ H, t' D σ H → t D σ H) : PS X st t' := ⟨fun pins s σ H D I q => h.run pins s σ H D I (k D σ H q)⟩
theorem PSs.imp {t t' : TS} (h : PSs X sts t) (k : ∀ D σ H, t' D σ H → t D σ H) : PSs X sts t' := ⟨fun pins s σ H D I q => h.run pins s σ H D I (k D σ H q)⟩
end

/-! ### names, constants -/
def wVar (i : Nat) : WE := fun τ S R => ∃ d, τ[i]? = some (some d) ∧ R d S
def wC (d : D) : WE := fun _ S R => R d S
theorem VR.int {K : PySem.W.Frag} {ρ : List Addr} {H : Hp} {i : Int} : VR K ρ H (.int i) (.int i) := by unfold VR; rfl
theorem VR.bl {K : PySem.W.Frag} {ρ : List Addr} {H : Hp} {i : Bool} : VR K ρ H (.bl i) (.bl i) := by unfold VR; rfl
theorem VR.str {K : PySem.W.Frag} {ρ : List Addr} {H : Hp} {x : Str} : VR K ρ H (.str x) (.str x) := by unfold VR; rfl
theorem VR.non {K : PySem.W.Frag} {ρ : List Addr} {H : Hp} : VR K ρ H .non .non := by unfold VR; rfl
theorem VR.int_of {K : PySem.W.Frag} {ρ : List Addr} {H : Hp} {i : Int} {v : V} (h : VR K ρ H (.int i) v) : v = .int i := by unfold VR at h; exact h
theorem VR.bl_of {K : PySem.W.Frag} {ρ : List Addr} {H : Hp} {i : Bool} {v : V} (h : VR K ρ H (.bl i) v) : v = .bl i := by unfold VR at h; exact h
theorem VR.str_of {K : PySem.W.Frag} {ρ : List Addr} {H : Hp} {x : Str} {v : V} (h : VR K ρ H (.str x) v) : v = .str x := by unfold VR at h; exact h
theorem VR.non_of {K : PySem.W.Frag} {ρ : List Addr} {H : Hp} {v : V} (h : VR K ρ H .non v) : v = .non := by unfold VR at h; exact h
theorem VR.tup_of {K : PySem.W.Frag} {ρ : List Addr} {H : Hp} {ds : List D} {v : V} (h : VR K ρ H (.tup ds) v) : ∃ a vs, v = .ref a ∧ TupAt K H a vs ∧ VRs K ρ H ds vs := by unfold VR at h; exact h
theorem VR.fls_of {K : PySem.W.Frag} {ρ : List Addr} {H : Hp} {ds : List D} {v : V} (h : VR K ρ H (.fls ds) v) : ∃ a vs, v = .ref a ∧ FlsAt K H a vs ∧ VRs K ρ H ds vs := by unfold VR at h; exact h
theorem VR.loc_of {K : PySem.W.Frag} {ρ : List Addr} {H : Hp} {l : Nat} {v : V} (h : VR K ρ H (.loc l) v) : ∃ a, ρ[l]? = some a ∧ v = .ref a := by unfold VR at h; exact h
theorem VR.tup {K : PySem.W.Frag} {ρ : List Addr} {H : Hp} {ds : List D} {a : Addr} {vs : List V} (h : TupAt K H a vs) (r : VRs K ρ H ds vs) : VR K ρ H (.tup ds) (.ref a) := by unfold VR; exact ⟨a, vs, rfl, h, r⟩
theorem VR.fls {K : PySem.W.Frag} {ρ : List Addr} {H : Hp} {ds : List D} {a : Addr} {vs : List V} (h : FlsAt K H a vs) (r : VRs K ρ H ds vs) : VR K ρ H (.fls ds) (.ref a) := by unfold VR; exact ⟨a, vs, rfl, h, r⟩
theorem VR.loc {K : PySem.W.Frag} {ρ : List Addr} {H : Hp} {l : Nat} {a : Addr} (h : ρ[l]? = some a) : VR K ρ H (.loc l) (.ref a) := by unfold VR; exact ⟨a, h, rfl⟩

section
variable {X : Cx} {pos : Pos} {j : Nat}
theorem de_of_var {e : Expr} {i : Nat} (h : PE X e (tVar i)) : PE X e (dE X (wVar i)) := PE.imp h fun σ H Q ⟨ρ, τ, S, R, W, er, ⟨d, h1, h2⟩, p⟩ =>
  let ⟨v, h3, h4⟩ := er.2 i d h1
  ⟨v, h3, p d S h2 ρ H v (Ext.refl _ _) W h4⟩
theorem de_of_C {e : Expr} {v : V} {d : D} (h : PE X e (tC v)) (r : ∀ ρ H, VR X.K ρ H d v) : PE X e (dE X (wC d)) := PE.imp h fun σ H Q ⟨ρ, τ, S, R, W, er, h2, p⟩ => p d S h2 ρ H v (Ext.refl _ _) W (r ρ H)
theorem de_var (i : Nat) {x : Str} (hN : X.N[i]? = some x := by rfl) (hv : Vis X.env.scope x := by first | exact Or.inl rfl | exact Or.inr (Or.inl rfl) | exact Or.inr (Or.inr rfl)) (hd : (x == ("__debug__" : Str)) = false := by decide)
    (hcd : (x == ("__classdict__" : Str)) = false := by decide) : PE X (.Name x pos) (dE X (wVar i)) := de_of_var (pe_var hN hv hd hcd)
theorem de_int {i : Int} : PE X (.Constant (.int i) j pos) (dE X (wC (.int i))) := de_of_C pe_int fun _ _ => .int
theorem de_bl {b : Bool} : PE X (.Constant (.bool b) j pos) (dE X (wC (.bl b))) := de_of_C pe_bl fun _ _ => .bl
theorem de_str {x : Str} : PE X (.Constant (.str x) j pos) (dE X (wC (.str x))) := de_of_C pe_str fun _ _ => .str
theorem de_non : PE X (.Constant .none j pos) (dE X (wC .non)) := de_of_C pe_non fun _ _ => .non
/-- a constant of the module -/
def GlbD (mg : Str → Option Value) (x : Str) : D → Prop
  | .int i => ∃ t, mg x = some (.int i t)
  | .str z => ∃ t, mg x = some (.str z t)
  | _ => False
theorem de_glb {x : Str} {d : D} (hg : Gl X x) (h : GlbD X.mg x d) (hd : (x == ("__debug__" : Str)) = false := by decide) : PE X (.Name x pos) (dE X (wC d)) := by
  cases d with
  | int i =>
    obtain ⟨t, h⟩ := h
    exact de_of_C (pe_glob (v := .int i) hg h ⟨t, rfl⟩ hd) fun _ _ => .int
  | str z =>
    obtain ⟨t, h⟩ := h
    exact de_of_C (pe_glob (v := .str z) hg h ⟨t, rfl⟩ hd) fun _ _ => .str
  | non => exact h.elim
  | bl _ => exact h.elim
  | tup _ => exact h.elim
  | fls _ => exact h.elim
  | loc _ => exact h.elim
end

/-! ### operators, by values -/
abbrev DOp := D → D → Sto → DQ → Prop
def rD (X : Cx) (op : DOp) : R2 := fun x y H Q => ∃ ρ S d1 d2 R, XW X ρ S H ∧ VR X.K ρ H d1 x ∧ VR X.K ρ H d2 y ∧ op d1 d2 S R ∧ PassE X ρ H R Q
theorem OpR.imp {X : Cx} {f : Value → Value → Sem Value} {r r' : R2} (h : OpR X f r) (k : ∀ x y H Q, r' x y H Q → r x y H Q) : OpR X f r' := fun pins s σ H x y v u Q I rx ry q => h pins s σ H x y v u Q I rx ry (k x y H Q q)
/-- two rules for one operator -/
def opOr (o o' : DOp) : DOp := fun a b S R => o a b S R ∨ o' a b S R
theorem OpD.or {X : Cx} {f : Value → Value → Sem Value} {o o' : DOp} (h : OpR X f (rD X o)) (h' : OpR X f (rD X o')) : OpR X f (rD X (opOr o o')) :=
  OpR.imp (h.or h') fun x y H Q ⟨ρ, S, d1, d2, R, W, r1, r2, q, p⟩ => q.imp (fun q => ⟨ρ, S, d1, d2, R, W, r1, r2, q, p⟩) fun q => ⟨ρ, S, d1, d2, R, W, r1, r2, q, p⟩
def wOp (o : DOp) (wa wb : WE) : WE := fun τ S R => wa τ S fun d1 S1 => wb τ S1 fun d2 S2 => o d1 d2 S2 R
section
variable {X : Cx} {pos : Pos} {a b c : Expr} {wa wb wc : WE}
theorem op_pass {o : DOp} {σ : St} {H : Hp} {Q : VK} (h : dE X (wOp o wa wb) σ H Q) : tOp (rD X o) (dE X wa) (dE X wb) σ H Q := by
  obtain ⟨ρ, τ, S, R, W, er, h, p⟩ := h
  refine ⟨ρ, τ, S, _, W, er, h, fun d1 S1 h1 ρ1 H1 v1 x1 W1 r1 => ⟨ρ1, τ, S1, _, W1, er.ext W.sep x1, h1, fun d2 S2 h2 ρ2 H2 v2 x2 W2 r2 => ?_⟩⟩
  exact ⟨ρ2, S2, d1, d2, R, W2, r1.ext W1.sep x2, r2, h2, (p.ext W1 x1).ext W2 x2⟩
theorem de_op {op : Operator} {o : DOp} (ho : OpR X (binaryOp op) (rD X o)) (ha : PE X a (dE X wa)) (hb : PE X b (dE X wb)) : PE X (.BinOp a op b pos) (dE X (wOp o wa wb)) := PE.imp (pe_op ho ha hb) fun _ _ _ => op_pass
theorem de_cmp {op : CmpOp} {o : DOp} (ho : OpR X (compareOp op) (rD X o)) (ha : PE X a (dE X wa)) (hb : PE X b (dE X wb)) (hm : behindInMarks op b = false := by first | exact nomark _ | rfl) : PE X (.Compare a [op] [b] pos) (dE X (wOp o wa wb)) :=
  PE.imp (pe_cmpR ho ha hb hm) fun _ _ _ => op_pass
/-- a comparison's answer as a test -/
def wTest (w : WE) : WT := fun τ S R => w τ S fun d S1 => ∃ b, d = .bl b ∧ R b S1
theorem test_pass {t : TE} {w : WE} (k : ∀ σ H Q, dE X w σ H Q → t σ H Q) {σ : St} {H : Hp} {Q : Bool → Hp → Prop} (h : dT X (wTest w) σ H Q) : tTest t σ H Q := by
  obtain ⟨ρ, τ, S, R, W, er, h, p⟩ := h
  refine k σ H _ ⟨ρ, τ, S, _, W, er, h, fun d S1 ⟨b, e, h1⟩ ρ1 H1 v x1 W1 r => ?_⟩
  subst e
  exact ⟨b, r.bl_of, p b S1 h1 ρ1 H1 x1 W1⟩
theorem dt_cmp {op : CmpOp} {o : DOp} (ho : OpR X (compareOp op) (rD X o)) (ha : PE X a (dE X wa)) (hb : PE X b (dE X wb)) (hm : behindInMarks op b = false := by first | exact nomark _ | rfl) : PT X (.Compare a [op] [b] pos) (dT X (wTest (wOp o wa wb))) :=
  PT.imp (pt_cmpR ho ha hb hm) fun _ _ _ => test_pass fun _ _ _ => op_pass
/-- a < b < c -/
def wChain (o o' : DOp) (wa wb wc : WE) : WE := fun τ S R => wa τ S fun d1 S1 => wb τ S1 fun d2 S2 => o d1 d2 S2 fun d S3 => ∃ k, d = .bl k ∧
  if k = true then wc τ S3 fun d3 S4 => o' d2 d3 S4 R else R (.bl false) S3
theorem chain_pass {o o' : DOp} {σ : St} {H : Hp} {Q : VK} (h : dE X (wChain o o' wa wb wc) σ H Q) : tChain (rD X o) (rD X o') (dE X wa) (dE X wb) (dE X wc) σ H Q := by
  obtain ⟨ρ, τ, S, R, W, er, h, p⟩ := h
  refine ⟨ρ, τ, S, _, W, er, h, fun d1 S1 h1 ρ1 H1 v1 x1 W1 r1 => ⟨ρ1, τ, S1, _, W1, er.ext W.sep x1, h1, fun d2 S2 h2 ρ2 H2 v2 x2 W2 r2 => ?_⟩⟩
  refine ⟨ρ2, S2, d1, d2, _, W2, r1.ext W1.sep x2, r2, h2, fun d S3 h3 ρ3 H3 v3 x3 W3 r3 => ?_⟩
  obtain ⟨k, e, h3⟩ := h3
  subst e
  refine ⟨k, r3.bl_of, ?_⟩
  have pq := ((p.ext W1 x1).ext W2 x2).ext W3 x3
  cases k with
  | true =>
    rw [if_pos rfl] at h3 ⊢
    refine ⟨ρ3, τ, S3, _, W3, ((er.ext W.sep x1).ext W1.sep x2).ext W2.sep x3, h3, fun d3 S4 h4 ρ4 H4 v4 x4 W4 r4 => ?_⟩
    exact ⟨ρ4, S4, d2, d3, R, W4, (r2.ext W2.sep x3).ext W3.sep x4, r4, h4, pq.ext W4 x4⟩
  | false =>
    rw [if_neg Bool.false_ne_true] at h3 ⊢
    exact pq _ _ h3 ρ3 H3 _ (Ext.refl _ _) W3 .bl
end
end Dl

namespace Dl
open PySem L2

/-! ### truth -/
def truD (S : Sto) : D → Option Bool
  | .non => some false
  | .bl b => some b
  | .int i => some (i != 0)
  | .str x => if x.length ≤ sizeLine then some ((x.length : Int) != 0) else none
  | .tup ds => some (!ds.isEmpty)
  | .fls ds => some (!ds.isEmpty)
  | .loc l => match S[l]? with
    | some (.lst xs) => some (!xs.isEmpty)
    | _ => none
theorem VRs.isEmpty {K : PySem.W.Frag} {ρ : List Addr} {H : Hp} {ds : List D} {vs : List V} (h : VRs K ρ H ds vs) : (!vs.isEmpty) = !ds.isEmpty := by
  cases ds with
  | nil =>
    unfold VRs at h
    subst h
    rfl
  | cons d ds =>
    unfold VRs at h
    obtain ⟨v, vr, rfl, _⟩ := h
    rfl
theorem truD_ok {X : Cx} {ρ : List Addr} {S : Sto} {H : Hp} {d : D} {v : V} {b : Bool} (W : XW X ρ S H) (r : VR X.K ρ H d v) (e : truD S d = some b) : TruV X.K v H b := by
  cases d with
  | non =>
    cases r.non_of
    exact (Option.some.inj e).symm
  | bl k =>
    cases r.bl_of
    exact (Option.some.inj e).symm
  | int i =>
    cases r.int_of
    exact (Option.some.inj e).symm
  | str x =>
    cases r.str_of
    have e' : (if x.length ≤ sizeLine then some ((x.length : Int) != 0) else none) = some b := e
    by_cases hz : x.length ≤ sizeLine
    · rw [if_pos hz] at e'
      exact ⟨hz, (Option.some.inj e').symm⟩
    · rw [if_neg hz] at e'
      cases e'
  | tup ds =>
    obtain ⟨a, vs, rfl, h1, h2⟩ := r.tup_of
    exact .inr (.inl ⟨vs, h1.sq, by rw [h2.isEmpty]; exact (Option.some.inj e).symm⟩)
  | fls ds =>
    obtain ⟨a, vs, rfl, h1, h2⟩ := r.fls_of
    exact .inl ⟨vs, h1.sq, by rw [h2.isEmpty]; exact (Option.some.inj e).symm⟩
  | loc l =>
    obtain ⟨a, h1, rfl⟩ := r.loc_of
    simp only [truD] at e
    split at e
    · rename_i xs h2
      obtain ⟨vs, h3, h4⟩ := W.obj l a _ h1 h2
      exact .inl ⟨vs, SqL.of h3, by rw [h4.isEmpty]; exact (Option.some.inj e).symm⟩
    · cases e
def wTruth (w : WE) : WT := fun τ S R => w τ S fun d S1 => ∃ b, truD S1 d = some b ∧ R b S1
section
variable {X : Cx} {pos : Pos} {a b c : Expr} {wa wb wc : WE} {tA tB : WT} {rest : List Expr}
theorem dt_truth (ha : PE X a (dE X wa)) (he : ∀ whole, isTrue a X.env whole = (do let v ← whole; standAt a.pos; holding [v] (truthy v)) := by intro _; rfl) : PT X a (dT X (wTruth wa)) :=
  PT.imp (pt_truth ha he) fun σ H Q ⟨ρ, τ, S, R, W, er, h, p⟩ => ⟨ρ, τ, S, _, W, er, h, fun d S1 ⟨b, e, h1⟩ ρ1 H1 v x1 W1 r => ⟨b, truD_ok W1 r e, p b S1 h1 ρ1 H1 x1 W1⟩⟩
/-! ### and, or, not, if else -/
def wAnd (t u : WT) : WT := fun τ S R => t τ S fun c S1 => if c = true then u τ S1 R else R false S1
def wOr (t u : WT) : WT := fun τ S R => t τ S fun c S1 => if c = true then R true S1 else u τ S1 R
def wNot (t : WT) : WT := fun τ S R => t τ S fun c S1 => R (!c) S1
theorem dw_and1 (ha : PT X a (dT X tA)) : PW X (.BoolOp .And [a] pos) (dT X tA) := pw_and1 ha
theorem dw_or1 (ha : PT X a (dT X tA)) : PW X (.BoolOp .Or [a] pos) (dT X tA) := pw_or1 ha
theorem dw_and (ha : PT X a (dT X tA)) (hb : PW X (.BoolOp .And (b :: rest) pos) (dT X tB)) : PW X (.BoolOp .And (a :: b :: rest) pos) (dT X (wAnd tA tB)) :=
  PW.imp (pw_and ha hb) fun σ H Q ⟨ρ, τ, S, R, W, er, h, p⟩ => ⟨ρ, τ, S, _, W, er, h, fun c S1 h1 ρ1 H1 x1 W1 => by
    cases c with
    | true =>
      rw [if_pos rfl] at h1 ⊢
      exact ⟨ρ1, τ, S1, R, W1, er.ext W.sep x1, h1, p.ext W1 x1⟩
    | false =>
      rw [if_neg Bool.false_ne_true] at h1 ⊢
      exact p _ _ h1 ρ1 H1 x1 W1⟩
theorem dw_or (ha : PT X a (dT X tA)) (hb : PW X (.BoolOp .Or (b :: rest) pos) (dT X tB)) : PW X (.BoolOp .Or (a :: b :: rest) pos) (dT X (wOr tA tB)) :=
  PW.imp (pw_or ha hb) fun σ H Q ⟨ρ, τ, S, R, W, er, h, p⟩ => ⟨ρ, τ, S, _, W, er, h, fun c S1 h1 ρ1 H1 x1 W1 => by
    cases c with
    | true =>
      rw [if_pos rfl] at h1 ⊢
      exact p _ _ h1 ρ1 H1 x1 W1
    | false =>
      rw [if_neg Bool.false_ne_true] at h1 ⊢
      exact ⟨ρ1, τ, S1, R, W1, er.ext W.sep x1, h1, p.ext W1 x1⟩⟩
theorem dt_not (ha : PT X a (dT X tA)) : PT X (.UnaryOp .Not a pos) (dT X (wNot tA)) :=
  PT.imp (pt_not ha) fun σ H Q ⟨ρ, τ, S, R, W, er, h, p⟩ => ⟨ρ, τ, S, _, W, er, h, fun c S1 h1 ρ1 H1 x1 W1 => p _ _ h1 ρ1 H1 x1 W1⟩
/-- as values -/
def wAndV (wa wb : WE) : WE := fun τ S R => wa τ S fun d S1 => ∃ b, truD S1 d = some b ∧ if b = true then wb τ S1 R else R d S1
def wOrV (wa wb : WE) : WE := fun τ S R => wa τ S fun d S1 => ∃ b, truD S1 d = some b ∧ if b = true then R d S1 else wb τ S1 R
def wNotV (wa : WE) : WE := fun τ S R => wa τ S fun d S1 => ∃ b, truD S1 d = some b ∧ R (.bl (!b)) S1
theorem de_one {op : BoolOp} (ha : PE X a (dE X wa)) : PE X (.BoolOp op [a] pos) (dE X wa) := pe_one ha
theorem de_and (ha : PE X a (dE X wa)) (hb : PE X (.BoolOp .And (b :: rest) pos) (dE X wb)) : PE X (.BoolOp .And (a :: b :: rest) pos) (dE X (wAndV wa wb)) :=
  PE.imp (pe_andT ha hb) fun σ H Q ⟨ρ, τ, S, R, W, er, h, p⟩ => ⟨ρ, τ, S, _, W, er, h, fun d S1 ⟨b, e, h1⟩ ρ1 H1 v x1 W1 r => by
    refine ⟨b, truD_ok W1 r e, ?_⟩
    cases b with
    | true =>
      rw [if_pos rfl] at h1 ⊢
      exact ⟨ρ1, τ, S1, R, W1, er.ext W.sep x1, h1, p.ext W1 x1⟩
    | false =>
      rw [if_neg Bool.false_ne_true] at h1 ⊢
      exact p _ _ h1 ρ1 H1 v x1 W1 r⟩
theorem de_or (ha : PE X a (dE X wa)) (hb : PE X (.BoolOp .Or (b :: rest) pos) (dE X wb)) : PE X (.BoolOp .Or (a :: b :: rest) pos) (dE X (wOrV wa wb)) :=
  PE.imp (pe_orT ha hb) fun σ H Q ⟨ρ, τ, S, R, W, er, h, p⟩ => ⟨ρ, τ, S, _, W, er, h, fun d S1 ⟨b, e, h1⟩ ρ1 H1 v x1 W1 r => by
    refine ⟨b, truD_ok W1 r e, ?_⟩
    cases b with
    | true =>
      rw [if_pos rfl] at h1 ⊢
      exact p _ _ h1 ρ1 H1 v x1 W1 r
    | false =>
      rw [if_neg Bool.false_ne_true] at h1 ⊢
      exact ⟨ρ1, τ, S1, R, W1, er.ext W.sep x1, h1, p.ext W1 x1⟩⟩
theorem de_not (ha : PE X a (dE X wa)) : PE X (.UnaryOp .Not a pos) (dE X (wNotV wa)) :=
  PE.imp (pe_notT ha) fun σ H Q ⟨ρ, τ, S, R, W, er, h, p⟩ => ⟨ρ, τ, S, _, W, er, h, fun d S1 ⟨b, e, h1⟩ ρ1 H1 v x1 W1 r => ⟨b, truD_ok W1 r e, p _ _ h1 ρ1 H1 _ x1 W1 .bl⟩⟩
def wIf (t : WT) (wa wb : WE) : WE := fun τ S R => t τ S fun c S1 => if c = true then wa τ S1 R else wb τ S1 R
theorem de_if (hc : PT X c (dT X tA)) (ha : PE X a (dE X wa)) (hb : PE X b (dE X wb)) : PE X (.IfExp c a b pos) (dE X (wIf tA wa wb)) :=
  PE.imp (pe_ifExp hc ha hb) fun σ H Q ⟨ρ, τ, S, R, W, er, h, p⟩ => ⟨ρ, τ, S, _, W, er, h, fun c S1 h1 ρ1 H1 x1 W1 => by
    cases c with
    | true =>
      rw [if_pos rfl] at h1 ⊢
      exact ⟨ρ1, τ, S1, R, W1, er.ext W.sep x1, h1, p.ext W1 x1⟩
    | false =>
      rw [if_neg Bool.false_ne_true] at h1 ⊢
      exact ⟨ρ1, τ, S1, R, W1, er.ext W.sep x1, h1, p.ext W1 x1⟩⟩
end

/-! ### argument lists, displays -/
def wNil : WA := fun _ S R => R [] S
def wCons (wa : WE) (wr : WA) : WA := fun τ S R => wa τ S fun d S1 => wr τ S1 fun ds S2 => R (d :: ds) S2
section
variable {X : Cx} {pos : Pos} {e : Expr} {es : List Expr} {wa : WE} {wr : WA}
theorem da_nil : PA X [] (dA X wNil) := PA.imp pa_nil fun σ H Q ⟨ρ, τ, S, R, W, er, h, p⟩ => p _ _ h ρ H [] (Ext.refl _ _) W .nil
theorem da_cons (ha : PE X e (dE X wa)) (hr : PA X es (dA X wr)) (hs : starEach (e :: es) X.env = (false, eval e X.env) :: starEach es X.env := by rfl) : PA X (e :: es) (dA X (wCons wa wr)) :=
  PA.imp (pa_cons ha hr hs) fun σ H Q ⟨ρ, τ, S, R, W, er, h, p⟩ => ⟨ρ, τ, S, _, W, er, h, fun d S1 h1 ρ1 H1 v x1 W1 r1 => ⟨ρ1, τ, S1, _, W1, er.ext W.sep x1, h1, fun ds S2 h2 ρ2 H2 vs x2 W2 r2 =>
    p _ _ h2 ρ2 H2 _ (x1.trans W1.sep x2) W2 (.cons (r1.ext W1.sep x2) r2)⟩⟩
def wTup (wr : WA) : WE := fun τ S R => wr τ S fun ds S1 => ds.length ≤ sizeLine ∧ R (.tup ds) S1
def wLst (wr : WA) : WE := fun τ S R => wr τ S fun ds S1 => ds.length ≤ sizeLine ∧ R (.loc S1.length) (S1 ++ [.lst ds])
/-- a new tuple -/
theorem new_tup {ρ : List Addr} {S : Sto} {H : Hp} {R : DQ} {Q : VK} {ds : List D} {vs : List V} (W : XW X ρ S H) (r : VRs X.K ρ H ds vs) (h : R (.tup ds) S) (p : PassE X ρ H R Q) {a : Addr} (ha : H a = none) : Q (.ref a) (upd H a (.tup vs)) :=
  p _ _ h ρ _ _ (ext_new ha) (W.laid ha) (.tup (.inl upd_same) (VRs.ext W.sep (ext_new ha) _ _ r))
/-- a new list -/
theorem new_lst {ρ : List Addr} {S : Sto} {H : Hp} {R : DQ} {Q : VK} {ds : List D} {vs : List V} (W : XW X ρ S H) (r : VRs X.K ρ H ds vs) (h : R (.loc S.length) (S ++ [.lst ds])) (p : PassE X ρ H R Q) {a : Addr} (ha : H a = none) : Q (.ref a) (upd H a (.lst vs)) :=
  p _ _ h (ρ ++ [a]) _ _ (ext_alloc ha) (W.alloc ha ⟨vs, upd_same, VRs.ext W.sep (ext_alloc ha) _ _ r⟩) (.loc (by rw [← W.len]; exact List.getElem?_concat_length ..))
theorem de_tup {x1 : Nat} (h : PA X es (dA X wr)) : PE X (.Tuple es x1 pos) (dE X (wTup wr)) :=
  PE.imp (pe_tup h) fun σ H Q ⟨ρ, τ, S, R, W, er, h, p⟩ => ⟨ρ, τ, S, _, W, er, h, fun ds S1 ⟨hz, h1⟩ ρ1 H1 vs x1 W1 r => ⟨by rw [r.length]; exact hz, fun a ha => new_tup W1 r h1 (p.ext W1 x1) ha⟩⟩
theorem de_lst (h : PA X es (dA X wr)) : PE X (.List es pos) (dE X (wLst wr)) :=
  PE.imp (pe_lst h) fun σ H Q ⟨ρ, τ, S, R, W, er, h, p⟩ => ⟨ρ, τ, S, _, W, er, h, fun ds S1 ⟨hz, h1⟩ ρ1 H1 vs x1 W1 r => ⟨by rw [r.length]; exact hz, fun a ha => new_lst W1 r h1 (p.ext W1 x1) ha⟩⟩
end

/-! ### subscripts, slices -/
section
variable {X : Cx} {pos p2 : Pos} {a b e : Expr} {wa wb we : WE} {lo hi : Option Expr}
theorem IxR.imp {r r' : R2} (h : IxR X r) (k : ∀ x y H Q, r' x y H Q → r x y H Q) : IxR X r' := fun value slice pins s σ H x y v u Q I rx ry q => h value slice pins s σ H x y v u Q I rx ry (k x y H Q q)
theorem IxD.or {o o' : DOp} (h : IxR X (rD X o)) (h' : IxR X (rD X o')) : IxR X (rD X (opOr o o')) :=
  IxR.imp (h.or h') fun x y H Q ⟨ρ, S, d1, d2, R, W, r1, r2, q, p⟩ => q.imp (fun q => ⟨ρ, S, d1, d2, R, W, r1, r2, q, p⟩) fun q => ⟨ρ, S, d1, d2, R, W, r1, r2, q, p⟩
theorem de_ix {o : DOp} (ho : IxR X (rD X o)) (ha : PE X a (dE X wa)) (hb : PE X b (dE X wb)) (hs : PlainIx b := by exact fun _ _ => rfl) : PE X (.Subscript a b pos) (dE X (wOp o wa wb)) := PE.imp (pe_ix ho ha hb hs) fun _ _ _ => op_pass
abbrev WO := DEnv → Sto → (Option Int → Sto → Prop) → Prop
def dO (X : Cx) (w : WO) : TO := fun σ H Q => ∃ ρ τ S R, XW X ρ S H ∧ ER X.K ρ H τ σ ∧ w τ S R ∧ ∀ i S', R i S' → ∀ ρ' H', Ext ρ H ρ' H' → XW X ρ' S' H' → Q i H'
def wNoPart : WO := fun _ S R => R none S
def wPart (w : WE) : WO := fun τ S R => w τ S fun d S1 => ∃ i, d = .int i ∧ R (some i) S1
theorem PO.imp {x : Option Expr} {t t' : TO} (h : PO X x t) (k : ∀ σ H Q, t' σ H Q → t σ H Q) : PO X x t' := ⟨fun pins s σ H Q I q => h.run pins s σ H Q I (k σ H Q q)⟩
theorem do_none : PO X none (dO X wNoPart) := PO.imp po_none fun σ H Q ⟨ρ, τ, S, R, W, er, h, p⟩ => p _ _ h ρ H (Ext.refl _ _) W
theorem do_some (ha : PE X a (dE X wa)) : PO X (some a) (dO X (wPart wa)) := PO.imp (po_some ha) fun σ H Q ⟨ρ, τ, S, R, W, er, h, p⟩ => ⟨ρ, τ, S, _, W, er, h, fun d S1 ⟨i, e, h1⟩ ρ1 H1 v x1 W1 r => by
  subst e
  exact ⟨i, r.int_of, p _ _ h1 ρ1 H1 x1 W1⟩⟩
abbrev DSl := D → Option Int → Option Int → Sto → DQ → Prop
def rSlD (X : Cx) (op : DSl) : V → Option Int → Option Int → Hp → VK → Prop := fun x lo hi H Q => ∃ ρ S d R, XW X ρ S H ∧ VR X.K ρ H d x ∧ op d lo hi S R ∧ PassE X ρ H R Q
theorem SlR.imp {r r' : V → Option Int → Option Int → Hp → VK → Prop} (h : SlR X r) (k : ∀ x l u H Q, r' x l u H Q → r x l u H Q) : SlR X r' := fun pins s σ H x v vl vu l u sl Q I rx hs pl pu q => h pins s σ H x v vl vu l u sl Q I rx hs pl pu (k x l u H Q q)
def slOr (o o' : DSl) : DSl := fun d lo hi S R => o d lo hi S R ∨ o' d lo hi S R
theorem SlD.or {o o' : DSl} (h : SlR X (rSlD X o)) (h' : SlR X (rSlD X o')) : SlR X (rSlD X (slOr o o')) :=
  SlR.imp (h.or h') fun x l u H Q ⟨ρ, S, d, R, W, r, q, p⟩ => q.imp (fun q => ⟨ρ, S, d, R, W, r, q, p⟩) fun q => ⟨ρ, S, d, R, W, r, q, p⟩
def wSl (o : DSl) (we : WE) (wl wh : WO) : WE := fun τ S R => we τ S fun d S1 => wl τ S1 fun l S2 => wh τ S2 fun u S3 => o d l u S3 R
theorem de_slice {o : DSl} {wl wh : WO} (ho : SlR X (rSlD X o)) (he : PE X e (dE X we)) (hl : PO X lo (dO X wl)) (hu : PO X hi (dO X wh)) : PE X (.Subscript e (.Slice lo hi none p2) pos) (dE X (wSl o we wl wh)) :=
  PE.imp (pe_slice ho he hl hu) fun σ H Q ⟨ρ, τ, S, R, W, er, h, p⟩ => ⟨ρ, τ, S, _, W, er, h, fun d S1 h1 ρ1 H1 v x1 W1 r1 => ⟨ρ1, τ, S1, _, W1, er.ext W.sep x1, h1, fun l S2 h2 ρ2 H2 x2 W2 =>
    ⟨ρ2, τ, S2, _, W2, (er.ext W.sep x1).ext W1.sep x2, h2, fun u S3 h3 ρ3 H3 x3 W3 => ⟨ρ3, S3, d, R, W3, (r1.ext W1.sep x2).ext W2.sep x3, h3, ((p.ext W1 x1).ext W2 x2).ext W3 x3⟩⟩⟩⟩
end

/-! ### calls of built-ins -/
abbrev DCall := List D → Sto → DQ → Prop
def rCD (X : Cx) (op : DCall) : List V → Hp → VK → Prop := fun xs H Q => ∃ ρ S ds R, XW X ρ S H ∧ VRs X.K ρ H ds xs ∧ op ds S R ∧ PassE X ρ H R Q
section
variable {X : Cx} {pos p : Pos} {e : Expr} {es : List Expr} {wr : WA} {x : Str} {id T : String}
theorem CallR.imp {f : Value} {r r' : List V → Hp → VK → Prop} (h : CallR X f r) (k : ∀ xs H Q, r' xs H Q → r xs H Q) : CallR X f r' := fun pins s σ H xs us Q I r1 q => h pins s σ H xs us Q I r1 (k xs H Q q)
theorem CallR.or {f : Value} {r r' : List V → Hp → VK → Prop} (h : CallR X f r) (h' : CallR X f r') : CallR X f (fun xs H Q => r xs H Q ∨ r' xs H Q) := fun pins s σ H xs us Q I r1 q => q.elim (h pins s σ H xs us Q I r1) (h' pins s σ H xs us Q I r1)
def callOr (o o' : DCall) : DCall := fun ds S R => o ds S R ∨ o' ds S R
theorem CallD.or {f : Value} {o o' : DCall} (h : CallR X f (rCD X o)) (h' : CallR X f (rCD X o')) : CallR X f (rCD X (callOr o o')) :=
  CallR.imp (CallR.or h h') fun xs H Q ⟨ρ, S, ds, R, W, r, q, p⟩ => q.imp (fun q => ⟨ρ, S, ds, R, W, r, q, p⟩) fun q => ⟨ρ, S, ds, R, W, r, q, p⟩
def wCB (o : DCall) (wr : WA) : WE := fun τ S R => wr τ S fun ds S1 => o ds S1 R
theorem call_pass {o : DCall} {σ : St} {H : Hp} {Q : VK} (h : dE X (wCB o wr) σ H Q) : tCB (rCD X o) (dA X wr) σ H Q := by
  obtain ⟨ρ, τ, S, R, W, er, h, p⟩ := h
  exact ⟨ρ, τ, S, _, W, er, h, fun ds S1 h1 ρ1 H1 vs x1 W1 r => ⟨ρ1, S1, ds, R, W1, r, h1, p.ext W1 x1⟩⟩
theorem de_callB {o : DCall} (ho : CallR X (.builtin id) (rCD X o)) (hm : X.mg x = none) (hg : Gl X x) (hv : bootBuiltins x = some (.builtin id)) (ha : PA X (e :: es) (dA X wr)) (hn : x ≠ "__name__" := by decide) (hdb : (x == ("__debug__" : Str)) = false := by decide)
    (hs : starEach (e :: es) X.env = (false, eval e X.env) :: starEach es X.env := by rfl) (hpl : (backTo pos (starEach es X.env)).any (·.1) = false := by rfl) :
    PE X (.Call (.Name x p) (e :: es) [] pos) (dE X (wCB o wr)) := PE.imp (pe_callB ho hg hm hv ha hn hdb hs hpl) fun _ _ _ => call_pass
theorem de_callT {o : DCall} (ho : CallR X (.type T) (rCD X o)) (hm : X.mg x = none) (hg : Gl X x) (hv : bootBuiltins x = some (.type T)) (ha : PA X (e :: es) (dA X wr)) (hn : x ≠ "__name__" := by decide) (hdb : (x == ("__debug__" : Str)) = false := by decide)
    (hs : starEach (e :: es) X.env = (false, eval e X.env) :: starEach es X.env := by rfl) (hpl : (backTo pos (starEach es X.env)).any (·.1) = false := by rfl) :
    PE X (.Call (.Name x p) (e :: es) [] pos) (dE X (wCB o wr)) := PE.imp (pe_callTy ho hg hm hv ha hn hdb hs hpl) fun _ _ _ => call_pass
end

/-! ### calls of defs -/
def spD (w : World) (K : PySem.W.Frag) (mg : Str → Option Value) (sp : DSp) : Sp := fun vs H Q _ => ∃ ρ S ds R, Wd w K mg ρ S H ∧ VRs K ρ H ds vs ∧ sp ds S R ∧
  ∀ d S', R d S' → ∀ ρ' H' v, Ext ρ H ρ' H' → Wd w K mg ρ' S' H' → VR K ρ' H' d v → Q v H'
/-- the def of the module at the name x keeps its promise, at most k calls deep -/
structure FnD (P : Program) (w : World) (K : PySem.W.Frag) (mg : Str → Option Value) (base : Heap) (k : Nat) (x : Str) (sp : DSp) : Prop where
  ex : ∃ f fd ps, FnOk P w K mg base CX0 k f fd ps (spD w K mg sp) ∧ mg x = some (.ref f) ∧ PySem.W.keepIn K (.ref f) = true ∧ Binds K fd ps []
theorem FnD.mono {P : Program} {w : World} {K : PySem.W.Frag} {mg : Str → Option Value} {base : Heap} {j k : Nat} {x : Str} {sp : DSp} (F : FnD P w K mg base j x sp) (h : j ≤ k) : FnD P w K mg base k x sp :=
  let ⟨f, fd, ps, h1, h2, h3, h4⟩ := F.ex
  ⟨f, fd, ps, h1.mono h, h2, h3, h4⟩
/-- a weaker promise -/
theorem FnD.imp {P : Program} {w : World} {K : PySem.W.Frag} {mg : Str → Option Value} {base : Heap} {k : Nat} {x : Str} {sp sp' : DSp} (F : FnD P w K mg base k x sp) (h : ∀ ds S R, sp' ds S R → sp ds S R) : FnD P w K mg base k x sp' :=
  let ⟨f, fd, ps, h1, h2, h3, h4⟩ := F.ex
  ⟨f, fd, ps, h1.imp fun vs H Q E ⟨ρ, S, ds, R, W, r, q, p⟩ => ⟨ρ, S, ds, R, W, r, h _ _ _ q, p⟩, h2, h3, h4⟩
def wCall (sp : DSp) (wr : WA) : WE := fun τ S R => wr τ S fun ds S1 => sp ds S1 R
section
variable {X : Cx} {pos p : Pos} {e : Expr} {es : List Expr} {wr : WA} {x : Str} {k : Nat} {sp : DSp}
theorem de_call (F : FnD X.prog X.w X.K X.mg X.base k x sp) (hr : Room k X.A) (hg : Gl X x) (ha : PA X (e :: es) (dA X wr)) (hdb : (x == ("__debug__" : Str)) = false := by decide)
    (he : starEach (e :: es) X.env = (false, eval e X.env) :: starEach es X.env := by rfl) (hpl : (backTo pos (starEach es X.env)).any (·.1) = false := by rfl) : PE X (.Call (.Name x p) (e :: es) [] pos) (dE X (wCall sp wr)) := by
  obtain ⟨f, fd, ps, h1, h2, h3, h4⟩ := F.ex
  refine PE.imp (pe_call h1 hr hg h2 h3 h4 .nil pass0 ha hdb he hpl) fun σ H Q ⟨ρ, τ, S, R, W, er, h, p⟩ => ?_
  exact ⟨ρ, τ, S, _, W, er, h, fun ds S1 h1 ρ1 H1 vs x1 W1 r => ⟨ρ1, S1, ds, R, W1, by rw [List.append_nil]; exact r, h1, p.ext W1 x1⟩⟩
theorem de_call0 (F : FnD X.prog X.w X.K X.mg X.base k x sp) (hr : Room k X.A) (hg : Gl X x) (hdb : (x == ("__debug__" : Str)) = false := by decide) : PE X (.Call (.Name x p) [] [] pos) (dE X (wCall sp wNil)) := by
  obtain ⟨f, fd, ps, h1, h2, h3, h4⟩ := F.ex
  refine PE.imp (pe_call0 h1 hr hg h2 h3 h4 .nil pass0 hdb) fun σ H Q ⟨ρ, τ, S, R, W, er, h, p⟩ => ?_
  exact ⟨ρ, S, [], R, W, .nil, h, p⟩
end
end Dl

namespace Dl
open PySem L2

/-! ### blocks and small statements -/
def wSkip : WS := fun R τ S => R.nx τ S
def wSeq (t u : WS) : WS := fun R τ S => t { R with nx := fun τ' S' => u R τ' S' } τ S
def wBreak : WS := fun R τ S => R.bk τ S
def wCont : WS := fun R τ S => R.ct τ S
def wDrop (we : WE) : WS := fun R τ S => we τ S fun _ S1 => R.nx τ S1
def wRet (we : WE) : WS := fun R τ S => we τ S R.rt
def wRetN : WS := fun R _ S => R.rt .non S
def wIfS (c : WT) (t u : WS) : WS := fun R τ S => c τ S fun b S1 => if b = true then t R τ S1 else u R τ S1
def wNever : WS := fun _ _ _ => False
section
variable {X : Cx} {st : Stmt} {rest : List Stmt} {wt wu : WS} {e c : Expr} {we : WE} {wc : WT} {pos : Pos} {a b : List Stmt}
theorem ds_nil : PSs X [] (dS X wSkip) := PSs.imp pss_nil fun D σ H ⟨ρ, τ, S, R, W, er, h, p1, p2, p3, p4⟩ => p1 _ _ h ρ H σ (Ext.refl _ _) W er
theorem ds_cons (h1 : PS X st (dS X wt)) (h2 : PSs X rest (dS X wu)) : PSs X (st :: rest) (dS X (wSeq wt wu)) :=
  PSs.imp (pss_cons h1 h2) fun D σ H ⟨ρ, τ, S, R, W, er, h, p1, p2, p3, p4⟩ => ⟨ρ, τ, S, _, W, er, h, fun τ' S' h' ρ1 H1 σ1 x1 W1 er1 => ⟨ρ1, τ', S', R, W1, er1, h', p1.ext W1 x1, p2.ext W1 x1, p3.ext W1 x1, p4.ext W1 x1⟩, p2, p3, p4⟩
theorem ds_one (h1 : PS X st (dS X wt)) : PSs X [st] (dS X wt) := pss_one h1
theorem ds_pass : PS X (.Pass pos) (dS X wSkip) := PS.imp ps_pass fun D σ H ⟨ρ, τ, S, R, W, er, h, p1, p2, p3, p4⟩ => p1 _ _ h ρ H σ (Ext.refl _ _) W er
theorem ds_break : PS X (.Break pos) (dS X wBreak) := PS.imp ps_break fun D σ H ⟨ρ, τ, S, R, W, er, h, p1, p2, p3, p4⟩ => p3 _ _ h ρ H σ (Ext.refl _ _) W er
theorem ds_cont : PS X (.Continue pos) (dS X wCont) := PS.imp ps_continue fun D σ H ⟨ρ, τ, S, R, W, er, h, p1, p2, p3, p4⟩ => p4 _ _ h ρ H σ (Ext.refl _ _) W er
theorem ds_expr (he : PE X e (dE X we)) (hs : swapsWith e none pos.line X.env = pure false := by rfl) : PS X (.Expr e pos) (dS X (wDrop we)) :=
  PS.imp (ps_expr he hs) fun D σ H ⟨ρ, τ, S, R, W, er, h, p1, p2, p3, p4⟩ => ⟨ρ, τ, S, _, W, er, h, fun d S1 h1 ρ1 H1 v x1 W1 r => p1 _ _ h1 ρ1 H1 σ x1 W1 (er.ext W.sep x1)⟩
theorem ds_ret (he : PE X e (dE X we)) : PS X (.Return (some e) pos) (dS X (wRet we)) :=
  PS.imp (ps_ret he) fun D σ H ⟨ρ, τ, S, R, W, er, h, p1, p2, p3, p4⟩ => ⟨ρ, τ, S, _, W, er, h, p2⟩
theorem ds_retN : PS X (.Return none pos) (dS X wRetN) := PS.imp ps_retN fun D σ H ⟨ρ, τ, S, R, W, er, h, p1, p2, p3, p4⟩ => p2 _ _ h ρ H _ (Ext.refl _ _) W .non
theorem ds_if (hc : PT X c (dT X wc)) (ha : PSs X a (dS X wt)) (hb : PSs X b (dS X wu)) : PS X (.If c a b pos) (dS X (wIfS wc wt wu)) :=
  PS.imp (ps_if hc ha hb) fun D σ H ⟨ρ, τ, S, R, W, er, h, p1, p2, p3, p4⟩ => ⟨ρ, τ, S, _, W, er, h, fun b S1 h1 ρ1 H1 x1 W1 => by
    cases b with
    | true =>
      rw [if_pos rfl] at h1 ⊢
      exact ⟨ρ1, τ, S1, R, W1, er.ext W.sep x1, h1, p1.ext W1 x1, p2.ext W1 x1, p3.ext W1 x1, p4.ext W1 x1⟩
    | false =>
      rw [if_neg Bool.false_ne_true] at h1 ⊢
      exact ⟨ρ1, τ, S1, R, W1, er.ext W.sep x1, h1, p1.ext W1 x1, p2.ext W1 x1, p3.ext W1 x1, p4.ext W1 x1⟩⟩
theorem ds_never : PS X st (dS X wNever) := PS.imp ps_never fun D σ H ⟨ρ, τ, S, R, W, er, h, _⟩ => h.elim
theorem ds_nevers : PSs X rest (dS X wNever) := PSs.imp pss_never fun D σ H ⟨ρ, τ, S, R, W, er, h, _⟩ => h.elim
end

/-! ### targets -/
abbrev WG := D → DEnv → Sto → (DEnv → Sto → Prop) → Prop
abbrev WGs := List D → DEnv → Sto → (DEnv → Sto → Prop) → Prop
def dG (X : Cx) (g : WG) : TG := fun v σ H Q => ∃ ρ τ S d R, XW X ρ S H ∧ ER X.K ρ H τ σ ∧ VR X.K ρ H d v ∧ g d τ S R ∧ PassN X ρ H R Q
def dGs (X : Cx) (g : WGs) : TGs := fun vs σ H Q => ∃ ρ τ S ds R, XW X ρ S H ∧ ER X.K ρ H τ σ ∧ VRs X.K ρ H ds vs ∧ g ds τ S R ∧ PassN X ρ H R Q
theorem PG.imp {X : Cx} {e : Expr} {t t' : TG} (h : PG X e t) (k : ∀ v σ H Q, t' v σ H Q → t v σ H Q) : PG X e t' := ⟨fun pins s σ H v u Q I r q => h.run pins s σ H v u Q I r (k v σ H Q q)⟩
theorem PGs.imp {X : Cx} {es : List Expr} {t t' : TGs} (h : PGs X es t) (k : ∀ v σ H Q, t' v σ H Q → t v σ H Q) : PGs X es t' := ⟨fun pins s σ H v u Q I r q => h.run pins s σ H v u Q I r (k v σ H Q q)⟩
def wgName (i : Nat) : WG := fun d τ S R => R (τ.set i (some d)) S
def wgNil : WGs := fun ds τ S R => ds = [] ∧ R τ S
def wgCons (g : WG) (gs : WGs) : WGs := fun ds τ S R => ∃ d r, ds = d :: r ∧ g d τ S fun τ1 S1 => gs r τ1 S1 R
def wgTup (n : Nat) (gs : WGs) : WG := fun d τ S R => ∃ ds, d = .tup ds ∧ ds.length = n ∧ gs ds τ S R
abbrev DSet := D → D → D → Sto → (Sto → Prop) → Prop
def rSetD (X : Cx) (op : DSet) : TSet := fun o i v H Q => ∃ ρ S d1 d2 d3 R, XW X ρ S H ∧ VR X.K ρ H d1 o ∧ VR X.K ρ H d2 i ∧ VR X.K ρ H d3 v ∧ op d1 d2 d3 S R ∧ ∀ S', R S' → ∀ ρ' H', Ext ρ H ρ' H' → XW X ρ' S' H' → Q H'
def wgSub (wo wi : WE) (op : DSet) : WG := fun d τ S R => wo τ S fun d1 S1 => wi τ S1 fun d2 S2 => op d1 d2 d S2 fun S3 => R τ S3
theorem PSet.or {X : Cx} {t t' : TSet} (h : PSet X t) (h' : PSet X t') : PSet X (fun o i v H Q => t o i v H Q ∨ t' o i v H Q) := fun pins s σ H o i v ov iv u Q I r1 r2 r3 q => q.elim (h pins s σ H o i v ov iv u Q I r1 r2 r3) (h' pins s σ H o i v ov iv u Q I r1 r2 r3)
theorem PSet.imp {X : Cx} {t t' : TSet} (h : PSet X t) (k : ∀ o i v H Q, t' o i v H Q → t o i v H Q) : PSet X t' := fun pins s σ H o i v ov iv u Q I r1 r2 r3 q => h pins s σ H o i v ov iv u Q I r1 r2 r3 (k o i v H Q q)
def setOr (o o' : DSet) : DSet := fun a b c S R => o a b c S R ∨ o' a b c S R
theorem SetD.or {X : Cx} {o o' : DSet} (h : PSet X (rSetD X o)) (h' : PSet X (rSetD X o')) : PSet X (rSetD X (setOr o o')) :=
  PSet.imp (PSet.or h h') fun a b c H Q ⟨ρ, S, d1, d2, d3, R, W, r1, r2, r3, q, p⟩ => q.imp (fun q => ⟨ρ, S, d1, d2, d3, R, W, r1, r2, r3, q, p⟩) fun q => ⟨ρ, S, d1, d2, d3, R, W, r1, r2, r3, q, p⟩
section
variable {X : Cx} {pos : Pos} {wg : WG} {wgs : WGs} {e o i : Expr} {es : List Expr} {wo wi we : WE}
theorem dg_name {i : Nat} {x : Str} (hN : X.N.Nodup) (hi : X.N[i]? = some x := by rfl) (hx : Loc X.env.scope x := by first | exact Or.inl rfl | exact Or.inr rfl) (hf : X.fn x = true ∨ X.env.scope.names.lookup x = some .local := by first | exact .inl rfl | exact .inr rfl | assumption) :
    PG X (.Name x pos) (dG X (wgName i)) := PG.imp (pg_name hN hi hx hf) fun v σ H Q ⟨ρ, τ, S, d, R, W, er, r, h, p⟩ => p _ _ h ρ H _ (Ext.refl _ _) W (er.set r)
theorem dgs_nil : PGs X [] (dGs X wgNil) := PGs.imp pgs_nil fun vs σ H Q ⟨ρ, τ, S, ds, R, W, er, r, ⟨e, h⟩, p⟩ => by
  subst e
  refine ⟨?_, p _ _ h ρ H _ (Ext.refl _ _) W er⟩
  have := r.length
  simpa using this
theorem dgs_cons (h1 : PG X e (dG X wg)) (h2 : PGs X es (dGs X wgs)) (hs : (assignEach (e :: es) X.env).map (·.2) = assign e X.env :: (assignEach es X.env).map (·.2) := by rfl) : PGs X (e :: es) (dGs X (wgCons wg wgs)) :=
  PGs.imp (pgs_cons h1 h2 hs) fun vs σ H Q ⟨ρ, τ, S, ds, R, W, er, r, ⟨d, dr, e1, h⟩, p⟩ => by
    subst e1
    unfold VRs at r
    obtain ⟨v, vr, rfl, r1, r2⟩ := r
    exact ⟨v, vr, rfl, ρ, τ, S, d, _, W, er, r1, h, fun τ1 S1 h1 ρ1 H1 σ1 x1 W1 er1 => ⟨ρ1, τ1, S1, dr, R, W1, er1, r2.ext W.sep x1, h1, p.ext W1 x1⟩⟩
theorem dg_tup {k n : Nat} (hc : X.calm = true) (h : PGs X es (dGs X wgs)) (hn : (assignEach es X.env).length = n := by rfl) (hst : (assignEach es X.env).findIdx? (·.1) = none := by rfl) : PG X (.Tuple es k pos) (dG X (wgTup n wgs)) :=
  PG.imp (pg_tup hc h hn hst) fun v σ H Q ⟨ρ, τ, S, d, R, W, er, r, ⟨ds, e1, hl, h⟩, p⟩ => by
    subst e1
    obtain ⟨a, vs, rfl, h1, h2⟩ := r.tup_of
    exact ⟨a, vs, rfl, h1.sq, h2.length.trans hl, ρ, τ, S, ds, R, W, er, h2, h, p⟩
theorem dg_sub {op : DSet} (ho : PE X o (dE X wo)) (hi : PE X i (dE X wi)) (hs : PSet X (rSetD X op))
    (ha : ∀ v, assign (.Subscript o i pos) X.env v = (do
      let ov ← holding [v] (eval o X.env)
      let iv ← holding [v, ov] (eval i X.env)
      standAt pos
      holding [v, ov, iv] (setItem ov iv v)
      release [v, ov, iv] []) := by intro _; rfl) : PG X (.Subscript o i pos) (dG X (wgSub wo wi op)) :=
  PG.imp (pg_sub ho hi hs ha) fun v σ H Q ⟨ρ, τ, S, d, R, W, er, r, h, p⟩ => ⟨ρ, τ, S, _, W, er, h, fun d1 S1 h1 ρ1 H1 v1 x1 W1 r1 => ⟨ρ1, τ, S1, _, W1, er.ext W.sep x1, h1, fun d2 S2 h2 ρ2 H2 v2 x2 W2 r2 =>
    ⟨ρ2, S2, d1, d2, d, _, W2, r1.ext W1.sep x2, r2, (r.ext W.sep x1).ext W1.sep x2, h2, fun S3 h3 ρ3 H3 x3 W3 => ((p.ext W1 x1).ext W2 x2) _ _ h3 ρ3 H3 σ x3 W3 (((er.ext W.sep x1).ext W1.sep x2).ext W2.sep x3)⟩⟩⟩

/-! ### assignments -/
def wAsg (we : WE) (g : WG) : WS := fun R τ S => we τ S fun d S1 => g d τ S1 R.nx
theorem asg_pass {σ : St} {H : Hp} {D : Ends} (h : dS X (wAsg we wg) D σ H) : tAsg (dE X we) (dG X wg) D σ H := by
  obtain ⟨ρ, τ, S, R, W, er, h, p1, p2, p3, p4⟩ := h
  exact ⟨ρ, τ, S, _, W, er, h, fun d S1 h1 ρ1 H1 v x1 W1 r => ⟨ρ1, τ, S1, d, R.nx, W1, er.ext W.sep x1, r, h1, p1.ext W1 x1⟩⟩
theorem ds_asg {tg : Expr} (he : PE X e (dE X we)) (hg : PG X tg (dG X wg)) (hs : swapsWithSole [tg] e pos.line X.env = pure false := by rfl) (hw : swappedStores [tg] e X.env = pure none := by rfl)
    (h1 : (assignEach [tg] X.env).map (·.2) = [assign tg X.env] := by rfl) : PS X (.Assign [tg] e pos) (dS X (wAsg we wg)) := PS.imp (ps_asg he hg hs hw h1) fun _ _ _ => asg_pass
theorem ds_set {i : Nat} {x : Str} {pos' : Pos} (hN : X.N.Nodup) (he : PE X e (dE X we)) (hi : X.N[i]? = some x := by rfl) (hx : Loc X.env.scope x := by first | exact Or.inl rfl | exact Or.inr rfl) (hs : swapsWith e (some (.Name x pos')) pos.line X.env = pure false := by rfl)
    (hf : X.fn x = true ∨ X.env.scope.names.lookup x = some .local := by first | exact .inl rfl | exact .inr rfl | assumption) : PS X (.Assign [.Name x pos'] e pos) (dS X (wAsg we (wgName i))) :=
  PS.imp (ps_set hN hi hx he hs hf) fun D σ H ⟨ρ, τ, S, R, W, er, h, p1, p2, p3, p4⟩ => ⟨ρ, τ, S, _, W, er, h, fun d S1 h1 ρ1 H1 v x1 W1 r => p1 _ _ h1 ρ1 H1 _ x1 W1 ((er.ext W.sep x1).set r)⟩
/-- a, b = x, y -/
def wPar (i j : Nat) (wr : WA) : WS := fun R τ S => wr τ S fun ds S1 => ∃ d c, ds = [d, c] ∧ R.nx ((τ.set i (some d)).set j (some c)) S1
theorem ds_par {i j : Nat} {x y : Str} {a b : Expr} {wr : WA} {px py pt : Pos} {kt k2 pt2} (hc : X.calm = true) (hN : X.N.Nodup) (hi : X.N[i]? = some x) (hj : X.N[j]? = some y) (hij : i ≠ j)
    (hx : X.env.scope.names.lookup x = some .local) (hy : X.env.scope.names.lookup y = some .local) (ha : PA X [a, b] (dA X wr))
    (hw : swappedStores [.Tuple [.Name x px, .Name y py] kt pt] (.Tuple [a, b] k2 pt2) X.env = pure (some [x, y]))
    (hs : swapsWithSole [.Tuple [.Name x px, .Name y py] kt pt] (.Tuple [a, b] k2 pt2) pos.line X.env = pure false := by rfl) :
    PS X (.Assign [.Tuple [.Name x px, .Name y py] kt pt] (.Tuple [a, b] k2 pt2) pos) (dS X (wPar i j wr)) :=
  PS.imp (ps_par hc hN hi hj hij hx hy ha hw hs) fun D σ H ⟨ρ, τ, S, R, W, er, h, p1, p2, p3, p4⟩ => ⟨ρ, τ, S, _, W, er, h, fun ds S1 ⟨d, c, e1, h1⟩ ρ1 H1 vs x1 W1 r => by
    subst e1
    unfold VRs at r
    obtain ⟨v, vr, rfl, r1, r2⟩ := r
    unfold VRs at r2
    obtain ⟨v2, vr2, rfl, r2, r3⟩ := r2
    have e3 : vr2 = [] := by unfold VRs at r3; exact r3
    subst e3
    exact ⟨v, v2, rfl, p1 _ _ h1 ρ1 H1 _ x1 W1 (((er.ext W.sep x1).set r1).set r2)⟩⟩
/-- x op= e -/
def rIpD (X : Cx) (op : DOp) : TIp := fun x y H Q => rD X op x y H Q
def wAug (i : Nat) (we : WE) (op : DOp) : WS := fun R τ S => ∃ d, τ[i]? = some (some d) ∧ we τ S fun c S1 => op d c S1 fun z S2 => R.nx (τ.set i (some z)) S2
theorem ds_aug {i : Nat} {x : Str} {op : Operator} {o : DOp} {pos' : Pos} (hN : X.N.Nodup) (he : PE X e (dE X we)) (ho : PIp X op (rD X o)) (hi : X.N[i]? = some x := by rfl) (hx : Loc X.env.scope x := by first | exact Or.inl rfl | exact Or.inr rfl)
    (hf : X.fn x = true ∨ X.env.scope.names.lookup x = some .local := by first | exact .inl rfl | exact .inr rfl | assumption) : PS X (.AugAssign (.Name x pos') op e pos) (dS X (wAug i we o)) :=
  PS.imp (ps_aug hN hi hx he ho hf) fun D σ H ⟨ρ, τ, S, R, W, er, ⟨d, h0, h⟩, p1, p2, p3, p4⟩ => by
    obtain ⟨v, h2, r⟩ := er.2 i d h0
    exact ⟨v, h2, ρ, τ, S, _, W, er, h, fun c S1 h1 ρ1 H1 y x1 W1 r1 => ⟨ρ1, S1, d, c, _, W1, r.ext W.sep x1, r1, h1, fun z S2 h2 ρ2 H2 zv x2 W2 r2 => (p1.ext W1 x1) _ _ h2 ρ2 H2 _ x2 W2 (((er.ext W.sep x1).ext W1.sep x2).set r2)⟩⟩
/-- o[i] op= e -/
def wAugS (wo wi we : WE) (get op : DOp) (set : DSet) : WS := fun R τ S => wo τ S fun d1 S1 => wi τ S1 fun d2 S2 => get d1 d2 S2 fun d3 S3 => we τ S3 fun d4 S4 => op d3 d4 S4 fun d5 S5 => set d1 d2 d5 S5 fun S6 => R.nx τ S6
theorem ds_augS {op : Operator} {get ip : DOp} {set : DSet} {tpos : Pos} (ho : PE X o (dE X wo)) (hi : PE X i (dE X wi)) (hg : PGet X (rD X get)) (he : PE X e (dE X we)) (hp : PIp X op (rD X ip)) (hs : PSet X (rSetD X set))
    (ha : ∀ ov iv new, augStore i ov iv new = (do holding [new, ov, iv] (setItem ov iv new); release [new, ov, iv] []; pure .next) := by intros; rfl) : PS X (.AugAssign (.Subscript o i tpos) op e pos) (dS X (wAugS wo wi we get ip set)) :=
  PS.imp (ps_augS ho hi hg he hp hs ha) fun D σ H ⟨ρ, τ, S, R, W, er, h, p1, p2, p3, p4⟩ => ⟨ρ, τ, S, _, W, er, h, fun d1 S1 h1 ρ1 H1 v1 x1 W1 r1 => ⟨ρ1, τ, S1, _, W1, er.ext W.sep x1, h1, fun d2 S2 h2 ρ2 H2 v2 x2 W2 r2 =>
    ⟨ρ2, S2, d1, d2, _, W2, r1.ext W1.sep x2, r2, h2, fun d3 S3 h3 ρ3 H3 v3 x3 W3 r3 => ⟨ρ3, τ, S3, _, W3, ((er.ext W.sep x1).ext W1.sep x2).ext W2.sep x3, h3, fun d4 S4 h4 ρ4 H4 v4 x4 W4 r4 =>
      ⟨ρ4, S4, d3, d4, _, W4, r3.ext W3.sep x4, r4, h4, fun d5 S5 h5 ρ5 H5 v5 x5 W5 r5 => ⟨ρ5, S5, d1, d2, d5, _, W5, (((r1.ext W1.sep x2).ext W2.sep x3).ext W3.sep x4).ext W4.sep x5, ((r2.ext W2.sep x3).ext W3.sep x4).ext W4.sep x5, r5, h5, fun S6 h6 ρ6 H6 x6 W6 =>
        (((((p1.ext W1 x1).ext W2 x2).ext W3 x3).ext W4 x4).ext W5 x5) _ _ h6 ρ6 H6 σ x6 W6 ((((((er.ext W.sep x1).ext W1.sep x2).ext W2.sep x3).ext W3.sep x4).ext W4.sep x5).ext W5.sep x6)⟩⟩⟩⟩⟩⟩
end

/-! ### while -/
def whileN (c : WT) (b : WS) : Nat → WS
  | 0 => fun _ _ _ => False
  | n + 1 => fun R τ S => c τ S fun v S1 => if v = true then b { nx := fun τ' S' => whileN c b n R τ' S', ct := fun τ' S' => whileN c b n R τ' S', bk := R.nx, rt := R.rt } τ S1 else R.nx τ S1
def wWhile (c : WT) (b : WS) : WS := fun R τ S => ∃ n, whileN c b n R τ S
theorem ds_while {X : Cx} {pos : Pos} {c : Expr} {body : List Stmt} {wc : WT} {wb : WS} (hp : PassesOwn (model X.prog X.w) X.A X.env X.xe) (hc : PT X c (dT X wc)) (hb : PSs X body (dS X wb)) : PS X (.While c body [] pos) (dS X (wWhile wc wb)) := by
  refine PS.imp (ps_while hp hc hb) fun D σ0 H0 ⟨ρ0, τ0, S0, R, W0, er0, ⟨n0, h0⟩, p1, p2, p3, p4⟩ => ?_
  refine ⟨fun m σ H => ∃ ρ τ S, XW X ρ S H ∧ ER X.K ρ H τ σ ∧ Ext ρ0 H0 ρ H ∧ whileN wc wb m R τ S, ⟨n0, ρ0, τ0, S0, W0, er0, Ext.refl _ _, h0⟩, ?_⟩
  rintro m σ H ⟨ρ, τ, S, W, er, x, h⟩
  cases m with
  | zero => exact h.elim
  | succ n =>
    refine ⟨ρ, τ, S, _, W, er, h, fun v S1 h1 ρ1 H1 x1 W1 => ?_⟩
    have x' := x.trans W.sep x1
    cases v with
    | true =>
      dsimp only
      rw [if_pos rfl] at h1 ⊢
      refine ⟨fun σ' H' => ∃ ρ τ S, XW X ρ S H' ∧ ER X.K ρ H' τ σ' ∧ Ext ρ0 H0 ρ H' ∧ whileN wc wb n R τ S, fun σ' H' q => ⟨n, Nat.lt_succ_self n, q⟩, ?_⟩
      exact ⟨ρ1, τ, S1, _, W1, er.ext W.sep x1, h1, fun τ2 S2 h2 ρ2 H2 σ2 x2 W2 er2 => ⟨ρ2, τ2, S2, W2, er2, x'.trans W1.sep x2, h2⟩, p2.ext W1 x', p1.ext W1 x', fun τ2 S2 h2 ρ2 H2 σ2 x2 W2 er2 => ⟨ρ2, τ2, S2, W2, er2, x'.trans W1.sep x2, h2⟩⟩
    | false =>
      dsimp only
      rw [if_neg Bool.false_ne_true] at h1 ⊢
      exact (p1.ext W1 x') _ _ h1 ρ1 H1 σ (Ext.refl _ _) W1 (er.ext W.sep x1)

/-! ### what is walked -/
/-- the items of a walk, and what must stay true of the store while it goes on -/
abbrev WI := DEnv → Sto → (List D → (Sto → Prop) → Sto → Prop) → Prop
structure JR (X : Cx) (J : It) (ρ0 : List Addr) (H0 : Hp) (items : List D) (chk : Sto → Prop) : Prop where
  go : ∀ (i : Nat) (d : D) (ρ : List Addr) (S : Sto) (H : Hp), Ext ρ0 H0 ρ H → XW X ρ S H → chk S → items[i]? = some d → J.go i H ∧ ∀ x H', J.yld i H x H' → Ext ρ H ρ H' ∧ XW X ρ S H' ∧ VR X.K ρ H' d x
  stop : ∀ (i : Nat) (ρ : List Addr) (S : Sto) (H : Hp), Ext ρ0 H0 ρ H → XW X ρ S H → chk S → items.length ≤ i → J.stop i H
def dI (X : Cx) (w : WI) : TI := fun σ H R => ∃ ρ τ S Rd, XW X ρ S H ∧ ER X.K ρ H τ σ ∧ w τ S Rd ∧ ∀ items chk S', Rd items chk S' → ∀ ρ' H' J, Ext ρ H ρ' H' → XW X ρ' S' H' → JR X J ρ' H' items chk → R J H'
theorem PI.imp {X : Cx} {tg e : Expr} {t t' : TI} (h : PI X tg e t) (k : ∀ σ H R, t' σ H R → t σ H R) : PI X tg e t' := ⟨fun pins s σ H R I q => h.run pins s σ H R I (k σ H R q)⟩
theorem PI.or {X : Cx} {tg e : Expr} {t t' : TI} (h : PI X tg e t) (h' : PI X tg e t') : PI X tg e (fun σ H R => t σ H R ∨ t' σ H R) := ⟨fun pins s σ H R I q => q.elim (h.run pins s σ H R I) (h'.run pins s σ H R I)⟩
def wiOr (w w' : WI) : WI := fun τ S R => w τ S R ∨ w' τ S R
theorem ID.or {X : Cx} {tg e : Expr} {w w' : WI} (h : PI X tg e (dI X w)) (h' : PI X tg e (dI X w')) : PI X tg e (dI X (wiOr w w')) :=
  PI.imp (PI.or h h') fun σ H R ⟨ρ, τ, S, Rd, W, er, q, p⟩ => q.imp (fun q => ⟨ρ, τ, S, Rd, W, er, q, p⟩) fun q => ⟨ρ, τ, S, Rd, W, er, q, p⟩

/-! ### for -/
/-- the body over the items, one by one -/
def forGo (chk : Sto → Prop) (g : WG) (b : WS) (R : DEnds) : List D → DEnv → Sto → Prop
  | [], τ, S => chk S ∧ R.nx τ S
  | d :: r, τ, S => chk S ∧ g d τ S fun τ1 S1 => b { nx := fun τ' S' => forGo chk g b R r τ' S', ct := fun τ' S' => forGo chk g b R r τ' S', bk := R.nx, rt := R.rt } τ1 S1
def wFor (wi : WI) (g : WG) (b : WS) : WS := fun R τ S => wi τ S fun items chk S1 => forGo chk g b R items τ S1
theorem forGo_chk {chk : Sto → Prop} {g : WG} {b : WS} {R : DEnds} : ∀ {items : List D} {τ : DEnv} {S : Sto}, forGo chk g b R items τ S → chk S
  | [], _, _, h => h.1
  | _ :: _, _, _, h => h.1
theorem ds_for {X : Cx} {pos : Pos} {tg iter : Expr} {body : List Stmt} {wi : WI} {wg : WG} {wb : WS} (hp : PassesOwn (model X.prog X.w) X.A X.env X.xe) (hc : X.calm = true) (hi : PI X tg iter (dI X wi)) (hg : PG X tg (dG X wg)) (hb : PSs X body (dS X wb))
    (hs : ∀ x, foldedSetIterable iter X.env x = pure x := by intro _; rfl) : PS X (.For tg iter body [] pos) (dS X (wFor wi wg wb)) := by
  refine PS.imp (ps_for hp hc hi hg hb hs) fun D σ0 H0 ⟨ρ0, τ0, S0, R, W0, er0, h0, p1, p2, p3, p4⟩ => ?_
  refine ⟨ρ0, τ0, S0, _, W0, er0, h0, fun items chk S1 h1 ρ1 H1 J x1 W1 jr => ?_⟩
  refine ⟨fun i m σ H => ∃ ρ τ S, XW X ρ S H ∧ ER X.K ρ H τ σ ∧ Ext ρ1 H1 ρ H ∧ m = items.length - i ∧ i ≤ items.length ∧ forGo chk wg wb R (items.drop i) τ S,
    ⟨items.length, ρ1, τ0, S1, W1, er0.ext W0.sep x1, Ext.refl _ _, rfl, Nat.zero_le _, by rw [List.drop_zero]; exact h1⟩, ?_⟩
  rintro i m σ H ⟨ρ, τ, S, W, er, x, rfl, hi', h⟩
  have xx := x1.trans W1.sep x
  by_cases hlt : i < items.length
  · rw [List.drop_eq_getElem_cons hlt] at h
    have hd : items[i]? = some items[i] := List.getElem?_eq_getElem hlt
    obtain ⟨go, yld⟩ := jr.go i _ ρ S H x W h.1 hd
    refine .inr ⟨go, fun σ' H' => ∃ ρ τ S, XW X ρ S H' ∧ ER X.K ρ H' τ σ' ∧ Ext ρ1 H1 ρ H' ∧ forGo chk wg wb R (items.drop (i + 1)) τ S,
      fun σ' H' ⟨ρ, τ, S, q1, q2, q3, q4⟩ => ⟨items.length - (i + 1), by omega, ρ, τ, S, q1, q2, q3, rfl, hlt, q4⟩, fun y H' hy => ?_⟩
    obtain ⟨x2, W2, r2⟩ := yld y H' hy
    refine ⟨ρ, τ, S, _, _, W2, er.ext W.sep x2, r2, h.2, fun τ3 S3 h3 ρ3 H3 σ3 x3 W3 er3 => ?_⟩
    have x23 := x2.trans W2.sep x3
    have xt := xx.trans W.sep x23
    exact ⟨ρ3, τ3, S3, _, W3, er3, h3, fun τ4 S4 h4 ρ4 H4 σ4 x4 W4 er4 => ⟨ρ4, τ4, S4, W4, er4, (x.trans W.sep x23).trans W3.sep x4, h4⟩, p2.ext W3 xt, p1.ext W3 xt,
      fun τ4 S4 h4 ρ4 H4 σ4 x4 W4 er4 => ⟨ρ4, τ4, S4, W4, er4, (x.trans W.sep x23).trans W3.sep x4, h4⟩⟩
  · have e : i = items.length := by omega
    subst e
    rw [List.drop_length] at h
    exact .inl ⟨jr.stop _ ρ S H x W h.1 (Nat.le_refl _), (p1.ext W xx) _ _ h.2 ρ H σ (Ext.refl _ _) W er⟩

/-! ### list comprehensions -/
def wipeD (τ : DEnv) : List Nat → DEnv
  | [] => τ
  | v :: vs => (wipeD τ vs).set v none
theorem ER.wipe {K : PySem.W.Frag} {ρ : List Addr} {H : Hp} {τ : DEnv} {σ : St} (er : ER K ρ H τ σ) : ∀ vs : List Nat, ER K ρ H (wipeD τ vs) (L2.wipe σ vs)
  | [] => er
  | v :: vs => by
    have ih := ER.wipe er vs
    unfold wipeD L2.wipe
    refine ⟨by simp [ih.1], fun j d h => ?_⟩
    by_cases hj : v = j
    · subst hj
      by_cases hl : v < (wipeD τ vs).length
      · rw [List.getElem?_set_self hl] at h
        cases h
      · rw [List.getElem?_eq_none (by simpa using hl)] at h
        cases h
    · rw [List.getElem?_set_ne hj] at h ⊢
      exact ih.2 j d h
/-- the items taken one by one; acc: what is made so far -/
def lcGo (chk : Sto → Prop) (g : WG) (t : WT) (e : WE) (τ : DEnv) (R : DQ) : List D → List D → Sto → Prop
  | [], acc, S => chk S ∧ R (.loc S.length) (S ++ [.lst acc])
  | d :: r, acc, S => chk S ∧ g d τ S fun τ1 S1 => t τ1 S1 fun b S2 => if b = true then e τ1 S2 fun y S3 => acc.length < sizeLine ∧ lcGo chk g t e τ R r (acc ++ [y]) S3 else lcGo chk g t e τ R r acc S2
def wLc (wi : WI) (g : WG) (t : WT) (e : WE) (vs : List Nat) : WE := fun τ S R => wi τ S fun items chk S1 => lcGo chk g t e (wipeD τ vs) R items [] S1
end Dl

namespace Dl
open PySem L2

/-- a comprehension's target that stores in the places vs alone -/
def Own (X : Cx) (g : TG) (wg : WG) (vs : List Nat) : Prop :=
  ∀ (ρ : List Addr) (S : Sto) (H : Hp) (τ : DEnv) (σ : St) (d : D) (v : V) (R : DEnv → Sto → Prop) (Q : St → Hp → Prop), XW X ρ S H → ER X.K ρ H τ σ → VR X.K ρ H d v → wg d τ S R →
    (∀ τ' σ', R τ' S → ER X.K ρ H τ' σ' → L2.wipe σ' vs = L2.wipe σ vs → Q σ' H) → g v σ H Q
theorem wipe_out {i : Nat} {o : Option V} : ∀ (ws : List Nat) (σ : St), i ∉ ws → L2.wipe (σ.set i o) ws = (L2.wipe σ ws).set i o
  | [], σ, _ => rfl
  | w :: ws, σ, hw => by
    unfold L2.wipe
    rw [wipe_out ws σ (fun z => hw (List.mem_cons_of_mem _ z)), List.set_comm _ _ (fun z => hw (by rw [z]; exact List.mem_cons_self))]
theorem wipe_set {σ : St} {i : Nat} {o : Option V} : ∀ {vs : List Nat}, i ∈ vs → L2.wipe (σ.set i o) vs = L2.wipe σ vs
  | v :: vs, h => by
    unfold L2.wipe
    by_cases hi : i ∈ vs
    · rw [wipe_set hi]
    · have e : i = v := by
        rcases List.mem_cons.mp h with e | e
        · exact e
        · exact absurd e hi
      subst e
      rw [wipe_out vs σ hi, List.set_set]
theorem wipe_wipe (σ : St) : ∀ vs : List Nat, L2.wipe (L2.wipe σ vs) vs = L2.wipe σ vs
  | [] => rfl
  | v :: vs => by
    show (L2.wipe ((L2.wipe σ vs).set v none) vs).set v none = (L2.wipe σ vs).set v none
    by_cases hi : v ∈ vs
    · rw [wipe_set hi, wipe_wipe σ vs]
    · rw [wipe_out vs _ hi, wipe_wipe σ vs, List.set_set]
theorem own_name {X : Cx} {i : Nat} {vs : List Nat} (h : i ∈ vs) : Own X (gName i) (wgName i) vs := fun ρ S H τ σ d v R Q W er r q k => k _ _ q (er.set r) (wipe_set h)
theorem own_tup2 {X : Cx} {i j : Nat} {vs : List Nat} (h : i ∈ vs) (h2 : j ∈ vs) : Own X (gTup X.K 2 (gCons (gName i) (gCons (gName j) gNil))) (wgTup 2 (wgCons (wgName i) (wgCons (wgName j) wgNil))) vs :=
  fun ρ S H τ σ d v R Q W er r ⟨ds, e1, hl, q⟩ k => by
    subst e1
    obtain ⟨a, us, rfl, h3, h4⟩ := r.tup_of
    obtain ⟨d1, r1, rfl, d2, r2, rfl, rfl, q⟩ := q
    unfold VRs at h4
    obtain ⟨v1, vr1, rfl, h5, h6⟩ := h4
    unfold VRs at h6
    obtain ⟨v2, vr2, rfl, h7, h8⟩ := h6
    have e3 : vr2 = [] := by unfold VRs at h8; exact h8
    subst e3
    exact ⟨a, _, rfl, h3.sq, rfl, v1, _, rfl, v2, _, rfl, rfl, k _ _ q ((er.set h5).set h7) (by rw [wipe_set h2, wipe_set h])⟩
theorem own_tup3 {X : Cx} {i j m : Nat} {vs : List Nat} (h : i ∈ vs) (h2 : j ∈ vs) (hm : m ∈ vs) : Own X (gTup X.K 3 (gCons (gName i) (gCons (gName j) (gCons (gName m) gNil)))) (wgTup 3 (wgCons (wgName i) (wgCons (wgName j) (wgCons (wgName m) wgNil)))) vs :=
  fun ρ S H τ σ d v R Q W er r ⟨ds, e1, hl, q⟩ k => by
    subst e1
    obtain ⟨a, us, rfl, h3, h4⟩ := r.tup_of
    obtain ⟨d1, r1, rfl, d2, r2, rfl, d3, r3, rfl, rfl, q⟩ := q
    unfold VRs at h4
    obtain ⟨v1, vr1, rfl, h5, h6⟩ := h4
    unfold VRs at h6
    obtain ⟨v2, vr2, rfl, h7, h8⟩ := h6
    unfold VRs at h8
    obtain ⟨v3, vr3, rfl, h9, h10⟩ := h8
    have e3 : vr3 = [] := by unfold VRs at h10; exact h10
    subst e3
    exact ⟨a, _, rfl, h3.sq, rfl, v1, _, rfl, v2, _, rfl, v3, _, rfl, rfl, k _ _ q (((er.set h5).set h7).set h9) (by rw [wipe_set hm, wipe_set h2, wipe_set h])⟩

/-- the tests of a comprehension -/
theorem PTs.imp {X : Cx} {es : List Expr} {t t' : TT} (h : PTs X es t) (k : ∀ σ H Q, t' σ H Q → t σ H Q) : PTs X es t' := ⟨fun pins s σ H Q I q => h.run pins s σ H Q I (k σ H Q q)⟩
def wYes : WT := fun _ S R => R true S
theorem dts_nil {X : Cx} : PTs X [] (dT X wYes) := PTs.imp pts_nil fun σ H Q ⟨ρ, τ, S, R, W, er, h, p⟩ => p _ _ h ρ H (Ext.refl _ _) W
theorem dts_one {X : Cx} {c : Expr} {w : WT} (h : PT X c (dT X w)) : PTs X [c] (dT X w) := pts_one h

theorem lc_pass {X : Cx} {wi : WI} {g : TG} {wg : WG} {wt : WT} {we : WE} {vs : List Nat} (ow : Own X g wg vs) {σ : St} {H : Hp} {Q : VK} (h : dE X (wLc wi wg wt we vs) σ H Q) : tLc (dI X wi) g (dT X wt) (dE X we) vs σ H Q := by
  obtain ⟨ρ0, τ0, S0, R, W0, er0, h0, p⟩ := h
  refine ⟨ρ0, τ0, S0, _, W0, er0, h0, fun items chk S1 h1 ρ1 H1 J x1 W1 jr => fun D hD => ?_⟩
  have er1 := (er0.ext W0.sep x1).wipe vs
  have pq := p.ext W1 x1
  refine ⟨fun i m H => ∃ ρ S acc accV, XW X ρ S H ∧ Ext ρ1 H1 ρ H ∧ D ∉ ρ ∧ H D = some (.lst accV) ∧ VRs X.K ρ H acc accV ∧ lcGo chk wg wt we (wipeD τ0 vs) R (items.drop i) acc S ∧ m = items.length - i ∧ i ≤ items.length,
    ⟨items.length, ρ1, S1, [], [], W1.laid hD, ext_new hD, W1.notin hD, upd_same, .nil, by rw [List.drop_zero]; exact h1, rfl, Nat.zero_le _⟩, ?_⟩
  rintro i m H ⟨ρ, S, acc, accV, W, x, hDn, hDH, ra, hl, rfl, hi⟩
  by_cases hlt : i < items.length
  · rw [List.drop_eq_getElem_cons hlt] at hl
    have hd : items[i]? = some items[i] := List.getElem?_eq_getElem hlt
    obtain ⟨go, yld⟩ := jr.go i _ ρ S H x W hl.1 hd
    refine .inr ⟨go, fun H' => ∃ ρ S acc accV, XW X ρ S H' ∧ Ext ρ1 H1 ρ H' ∧ D ∉ ρ ∧ H' D = some (.lst accV) ∧ VRs X.K ρ H' acc accV ∧ lcGo chk wg wt we (wipeD τ0 vs) R (items.drop (i + 1)) acc S,
      fun H' ⟨ρ, S, acc, accV, q1, q2, q3, q4, q5, q6⟩ => ⟨items.length - (i + 1), by omega, ρ, S, acc, accV, q1, q2, q3, q4, q5, q6, rfl, hlt⟩, fun y H' hy => ?_⟩
    obtain ⟨x2, W2, r2⟩ := yld y H' hy
    have xa := x.trans W.sep x2
    have hDH2 := x2.keep D _ hDH hDn
    have ra2 := VRs.ext W.sep x2 _ _ ra
    refine ow ρ S H' _ _ _ y _ _ W2 (er1.ext W1.sep xa) r2 hl.2 fun τ' σ' h3 er3 wp => ⟨wp.trans (wipe_wipe _ _), ?_⟩
    refine ⟨ρ, τ', S, _, W2, er3, h3, fun b S4 h4 ρ4 H4 x4 W4 => ?_⟩
    have keepD : ∀ {ρa ρb : List Addr} {Ha Hb : Hp} {u : HO}, Ext ρa Ha ρb Hb → D ∉ ρa → Ha D = some u → D ∉ ρb ∧ Hb D = some u := fun {ρa ρb Ha Hb u} e n hh => by
      refine ⟨fun hm => ?_, e.keep D _ hh n⟩
      obtain ⟨more, rfl, hmore⟩ := e.pre
      rcases List.mem_append.mp hm with z | z
      · exact n z
      · have := hmore D z
        rw [hh] at this
        cases this
    obtain ⟨hDn4, hDH4⟩ := keepD x4 hDn hDH2
    have ra4 := VRs.ext W2.sep x4 _ _ ra2
    have xb := xa.trans W2.sep x4
    cases b with
    | false =>
      dsimp only
      rw [if_neg Bool.false_ne_true] at h4 ⊢
      exact ⟨ρ4, S4, acc, accV, W4, xb, hDn4, hDH4, ra4, h4⟩
    | true =>
      dsimp only
      rw [if_pos rfl] at h4 ⊢
      refine ⟨ρ4, τ', S4, _, W4, er3.ext W2.sep x4, h4, fun z S5 ⟨hz, h5⟩ ρ5 H5 zv x5 W5 r5 => ?_⟩
      obtain ⟨hDn5, hDH5⟩ := keepD x5 hDn4 hDH4
      have ra5 := VRs.ext W4.sep x5 _ _ ra4
      have xc := xb.trans W4.sep x5
      have vx : VX ρ5 H5 ρ5 (upd H5 D (.lst (accV ++ [zv]))) := vx_upd hDH5 (fun vs q => by cases q) (fun a b q => by cases q)
      refine ⟨accV, hDH5, by rw [ra.length]; exact hz, ρ5, S5, acc ++ [z], accV ++ [zv], W5.aside hDn5 hDH5 (fun vs q => by cases q) (fun a b q => by cases q), ⟨xc.pre, fun a o ha hn => ?_⟩, hDn5, upd_same, VRs.vx vx _ _ (ra5.snoc r5), h5⟩
      have ne : a ≠ D := fun e => by
        rw [e, hD] at ha
        cases ha
      rw [upd_ne ne]
      exact xc.keep a o ha hn
  · have e : i = items.length := by omega
    subst e
    rw [List.drop_length] at hl
    refine .inl ⟨jr.stop _ ρ S H x W hl.1 (Nat.le_refl _), ?_⟩
    have vx : VX ρ H (ρ ++ [D]) H := ⟨fun l a h => by
      rw [List.getElem?_append_left (List.getElem?_eq_some_iff.mp h).1]
      exact h, fun _ _ h => h, fun _ _ _ h => h⟩
    refine pq _ _ hl.2 (ρ ++ [D]) H _ ⟨?_, x.keep⟩ (W.adopt hDn ⟨accV, hDH, VRs.vx vx _ _ ra⟩) (.loc (by rw [← W.len]; exact List.getElem?_concat_length ..))
    obtain ⟨more, e, hmore⟩ := x.pre
    refine ⟨more ++ [D], by rw [e, List.append_assoc], fun a ha => ?_⟩
    rcases List.mem_append.mp ha with z | z
    · exact hmore a z
    · have e2 : a = D := by simpa using z
      rw [e2]
      exact hD
section
variable {X : Cx} {elt tg iter : Expr} {ifs : List Expr} {scope : Scope} {own : List (Str × Nat)} {pos spos : Pos} {wi : WI} {g : TG} {wg : WG} {wt : WT} {we : WE}
theorem de_lc (ow : Own X g wg (own.map (·.2))) (hc : X.calm = true) (hN : X.N.Nodup) (hi : PI X tg iter (dI X wi)) (ok : BlkOk X.N X.env.scope scope own)
    (hg : ∀ (s : Shared) (H : Hp) (C : Addr) (cl : List (Str × Addr)) (fp : List Addr), PG (X.blk s H scope (compEnvC scope cl C X.env) fp) tg g) (ht : ∀ (s : Shared) (H : Hp) (C : Addr) (cl : List (Str × Addr)) (fp : List Addr), PTs (X.blk s H scope (compEnvC scope cl C X.env) fp) ifs (dT X wt))
    (he : ∀ (s : Shared) (H : Hp) (C : Addr) (cl : List (Str × Addr)) (fp : List Addr), PE (X.blk s H scope (compEnvC scope cl C X.env) fp) elt (dE X we)) (hs : ∀ x, foldedSetIterable iter X.env x = pure x := by intro _; rfl) :
    PE X (.ListComp elt [⟨tg, iter, ifs, 0⟩] scope pos) (dE X (wLc wi wg wt we (own.map (·.2)))) := PE.imp (pe_lc hc hN hi ok hg ht he hs) fun _ _ _ => lc_pass ow
/-- name = [..] on one line -/
theorem ds_setLc (ow : Own X g wg (own.map (·.2))) {i : Nat} {y : Str} {py : Pos} (hc : X.calm = true) (hN : X.N.Nodup) (hy : X.N[i]? = some y) (hyl : X.env.scope.names.lookup y = some .local)
    (hsw : swapsWith (.ListComp elt [⟨tg, iter, ifs, 0⟩] scope pos) (some (.Name y py)) spos.line X.env = pure true) (hi : PI X tg iter (dI X wi)) (ok : BlkOk X.N X.env.scope scope own)
    (hg : ∀ (s : Shared) (H : Hp) (C : Addr) (cl : List (Str × Addr)) (fp : List Addr), PG (X.blk s H scope (compEnvC scope cl C X.env) fp) tg g) (ht : ∀ (s : Shared) (H : Hp) (C : Addr) (cl : List (Str × Addr)) (fp : List Addr), PTs (X.blk s H scope (compEnvC scope cl C X.env) fp) ifs (dT X wt))
    (he : ∀ (s : Shared) (H : Hp) (C : Addr) (cl : List (Str × Addr)) (fp : List Addr), PE (X.blk s H scope (compEnvC scope cl C X.env) fp) elt (dE X we)) (hs : ∀ x, foldedSetIterable iter X.env x = pure x := by intro _; rfl) :
    PS X (.Assign [.Name y py] (.ListComp elt [⟨tg, iter, ifs, 0⟩] scope pos) spos) (dS X (wAsg (wLc wi wg wt we (own.map (·.2))) (wgName i))) :=
  PS.imp (ps_setLc hc hN hy hyl hsw hi ok hg ht he hs) fun D σ H ⟨ρ, τ, S, R, W, er, h, p1, p2, p3, p4⟩ =>
    lc_pass ow ⟨ρ, τ, S, _, W, er, h, fun d S1 h1 ρ1 H1 v x1 W1 r => p1 _ _ h1 ρ1 H1 _ x1 W1 ((er.ext W.sep x1).set r)⟩
end
end Dl

namespace Dl
open PySem L2 RZ

/-! ## what is walked: lists, tuples, texts, ranges, zip, enumerate -/
theorem VRs.inj_get {K : PySem.W.Frag} {ρ : List Addr} {H : Hp} {ds : List D} {vs : List V} {i : Nat} {d : D} {x : V} (r : VRs K ρ H ds vs) (h : ds[i]? = some d) (hx : vs[i]? = some x) : VR K ρ H d x := by
  obtain ⟨v, h1, h2⟩ := r.get h
  rw [hx] at h1
  cases h1
  exact h2
section
variable {X : Cx}
/-- what stands still at an address as a list -/
def LstHas (X : Cx) (ρ0 : List Addr) (H0 : Hp) (a : Addr) (items : List D) (chk : Sto → Prop) : Prop := ∀ (ρ : List Addr) (S : Sto) (H : Hp), Ext ρ0 H0 ρ H → XW X ρ S H → chk S → ∃ vs, SqL X.K H a vs ∧ VRs X.K ρ H items vs
def TupHas (X : Cx) (ρ0 : List Addr) (H0 : Hp) (a : Addr) (items : List D) : Prop := ∀ (ρ : List Addr) (S : Sto) (H : Hp), Ext ρ0 H0 ρ H → XW X ρ S H → ∃ vs, SqT X.K H a vs ∧ VRs X.K ρ H items vs
theorem lstHas_loc {ρ : List Addr} {H : Hp} {l : Nat} {a : Addr} {xs : List D} (h : ρ[l]? = some a) : LstHas X ρ H a xs (fun S => S[l]? = some (.lst xs)) := fun ρ' S' H' x W' hc => by
  obtain ⟨vs, h1, h2⟩ := W'.obj l a _ (x.get h) hc
  exact ⟨vs, SqL.of h1, h2⟩
theorem lstHas_fls {ρ : List Addr} {S : Sto} {H : Hp} {a : Addr} {xs : List D} {vs : List V} (W : XW X ρ S H) (h : FlsAt X.K H a vs) (r : VRs X.K ρ H xs vs) : LstHas X ρ H a xs (fun _ => True) := fun ρ' S' H' x W' _ =>
  ⟨vs, (h.keep fun o q => (x.vx W.sep).frz a _ _ q).sq, VRs.ext W.sep x _ _ r⟩
theorem tupHas {ρ : List Addr} {S : Sto} {H : Hp} {a : Addr} {xs : List D} {vs : List V} (W : XW X ρ S H) (h : TupAt X.K H a vs) (r : VRs X.K ρ H xs vs) : TupHas X ρ H a xs := fun ρ' S' H' x W' =>
  ⟨vs, (h.keep fun q => (x.vx W.sep).tup a _ q).sq, VRs.ext W.sep x _ _ r⟩
theorem jr_list {ρ : List Addr} {H : Hp} {a : Addr} {xs : List D} {chk : Sto → Prop} (h : LstHas X ρ H a xs chk) : JR X (Itl X.K a) ρ H xs chk where
  go := fun i d ρ' S' H' x W' hc hd => by
    obtain ⟨vs, h1, h2⟩ := h ρ' S' H' x W' hc
    obtain ⟨v, h3, h4⟩ := h2.get hd
    refine ⟨⟨vs, v, h1, h3⟩, fun y H2 ⟨e, k⟩ => ?_⟩
    subst e
    exact ⟨Ext.refl _ _, W', h2.inj_get hd (k vs h1)⟩
  stop := fun i ρ' S' H' x W' hc hi => by
    obtain ⟨vs, h1, h2⟩ := h ρ' S' H' x W' hc
    exact ⟨vs, h1, by rw [h2.length]; exact hi⟩
theorem jr_tup {ρ : List Addr} {H : Hp} {a : Addr} {xs : List D} (h : TupHas X ρ H a xs) : JR X (Itt X.K a) ρ H xs (fun _ => True) where
  go := fun i d ρ' S' H' x W' hc hd => by
    obtain ⟨vs, h1, h2⟩ := h ρ' S' H' x W'
    obtain ⟨v, h3, h4⟩ := h2.get hd
    refine ⟨⟨vs, v, h1, h3⟩, fun y H2 ⟨e, k⟩ => ?_⟩
    subst e
    exact ⟨Ext.refl _ _, W', h2.inj_get hd (k vs h1)⟩
  stop := fun i ρ' S' H' x W' hc hi => by
    obtain ⟨vs, h1, h2⟩ := h ρ' S' H' x W'
    exact ⟨vs, h1, by rw [h2.length]; exact hi⟩
/-- the signs of a text -/
def signsD (x : Str) : List D := x.cps.toList.map fun c => D.str ⟨#[c]⟩
theorem jr_str {ρ : List Addr} {H : Hp} (x : Str) : JR X (Its x) ρ H (signsD x) (fun _ => True) where
  go := fun i d ρ' S' H' xx W' hc hd => by
    unfold signsD at hd
    rw [List.getElem?_map] at hd
    cases e : x.cps.toList[i]? with
    | none =>
      rw [e] at hd
      cases hd
    | some c =>
      rw [e] at hd
      cases hd
      have hl : i < x.cps.size := by
        have := (List.getElem?_eq_some_iff.mp e).1
        simpa using this
      have e2 : x.cps[i]? = some c := by simpa using e
      refine ⟨hl, fun y H2 ⟨e3, c', h4, h5⟩ => ?_⟩
      subst e3
      rw [e2] at h4
      cases h4
      rw [h5]
      exact ⟨Ext.refl _ _, W', .str⟩
  stop := fun i ρ' S' H' xx W' hc hi => by
    have : x.cps.size ≤ i := by
      unfold signsD at hi
      simpa using hi
    exact this
/-- a value walked -/
def iAny (K : PySem.W.Frag) (tl : TE) : TI := fun σ H R => tl σ H fun x H1 => (∃ a, x = .ref a ∧ (∃ xs, SqL K H1 a xs) ∧ R (Itl K a) H1) ∨ (∃ a, x = .ref a ∧ (∃ xs, SqT K H1 a xs) ∧ R (Itt K a) H1) ∨ ∃ z, x = .str z ∧ R (Its z) H1
theorem pi_any {tg l : Expr} {tl : TE} (hl : PE X l tl) : PI X tg l (iAny X.K tl) := by
  refine ⟨fun pins s σ H R I h => ?_⟩
  refine thn (hl.run pins s σ H _ I h) fun v s1 ⟨x, H1, I1, r1, q1⟩ => ?_
  have fp : ∀ b ∈ [s1.heap.objs.size], FpOk X pins H1 b := fun b hb => by
    have e : b = s1.heap.objs.size := by simpa using hb
    subst e
    exact I1.fpOk (Nat.le_refl _) (I1.hok.fresh (Nat.le_refl _))
  rcases q1 with ⟨a, e, ⟨xs, hq⟩, q⟩ | ⟨a, e, ⟨xs, hq⟩, q⟩ | ⟨z, e, q⟩
  · subst e
    cases r1
    obtain ⟨its, rv, p, hz⟩ := I1.list hq
    exact wpAny_pyIter_list p.isList ⟨_, _, _, _, H1, rfl, I1.kept (t' := s1.toks) fun b o e => Heap.get?_push_of_some _ e, turn_list a _, ⟨_, Heap.get?_push_size _ rfl, rfl, rfl⟩, fp, q⟩
  · subst e
    cases r1
    obtain ⟨its, rv, p, hz⟩ := I1.tuple hq
    exact wpAny_pyIter_tuple (show s1.heap.IsTuple a its.toArray from p) ⟨_, _, _, _, H1, rfl, I1.kept (t' := s1.toks) fun b o e => Heap.get?_push_of_some _ e, turn_tuple a _, ⟨_, Heap.get?_push_size _ rfl, rfl, rfl⟩, fp, q⟩
  · subst e
    obtain ⟨t, rfl⟩ := r1
    cases ha : z.cps.all (· < 128)
    · exact wpAny_pyIter_wide ha (pi_one (tk := s1.toks) I1 _ (turn_str _ z t "str_iterator" (.inr rfl)) ⟨_, Heap.get?_push_size _ rfl, rfl, rfl⟩ q)
    · exact wpAny_pyIter_ascii ha (pi_one (tk := s1.toks) I1 _ (turn_str _ z t "str_ascii_iterator" (.inl rfl)) ⟨_, Heap.get?_push_size _ rfl, rfl, rfl⟩ q)
/-- the items of a value, and what must not change while they are walked -/
def itemsD (S : Sto) : D → Option (List D × (Sto → Prop))
  | .tup ds => some (ds, fun _ => True)
  | .fls ds => some (ds, fun _ => True)
  | .str x => some (signsD x, fun _ => True)
  | .loc l => match S[l]? with
    | some (.lst xs) => some (xs, fun S' => S'[l]? = some (.lst xs))
    | _ => none
  | _ => none
def wiAny (we : WE) : WI := fun τ S R => we τ S fun d S1 => ∃ p, itemsD S1 d = some p ∧ R p.1 p.2 S1
theorem di_any {tg l : Expr} {we : WE} (hl : PE X l (dE X we)) : PI X tg l (dI X (wiAny we)) := by
  refine PI.imp (pi_any hl) fun σ H R ⟨ρ, τ, S, Rd, W, er, h, p⟩ => ⟨ρ, τ, S, _, W, er, h, fun d S1 ⟨pr, e, h1⟩ ρ1 H1 v x1 W1 r => ?_⟩
  have fin := fun J => p pr.1 pr.2 S1 h1 ρ1 H1 J x1 W1
  cases d with
  | tup ds =>
    obtain ⟨a, vs, rfl, h2, h3⟩ := r.tup_of
    have e' : some (ds, fun _ => True) = some pr := e
    cases e'
    exact .inr (.inl ⟨a, rfl, ⟨vs, h2.sq⟩, fin _ (jr_tup (tupHas W1 h2 h3))⟩)
  | fls ds =>
    obtain ⟨a, vs, rfl, h2, h3⟩ := r.fls_of
    have e' : some (ds, fun _ => True) = some pr := e
    cases e'
    exact .inl ⟨a, rfl, ⟨vs, h2.sq⟩, fin _ (jr_list (lstHas_fls W1 h2 h3))⟩
  | str x =>
    cases r.str_of
    have e' : some (signsD x, fun _ => True) = some pr := e
    cases e'
    exact .inr (.inr ⟨x, rfl, fin _ (jr_str x)⟩)
  | loc l =>
    obtain ⟨a, h2, rfl⟩ := r.loc_of
    simp only [itemsD] at e
    split at e
    · rename_i xs h3
      cases e
      obtain ⟨vs, h4, h5⟩ := W1.obj l a _ h2 h3
      exact .inl ⟨a, rfl, ⟨vs, SqL.of h4⟩, fin _ (jr_list (lstHas_loc h2))⟩
    · cases e
  | non => cases e
  | bl _ => cases e
  | int _ => cases e

/-! ### range -/
def rangeD (lo : Int) (n : Nat) : List D := (List.range n).map fun i : Nat => D.int (lo + (i : Int))
theorem jr_range {ρ : List Addr} {H : Hp} (lo : Int) (n : Nat) : JR X (Itr lo n) ρ H (rangeD lo n) (fun _ => True) where
  go := fun i d ρ' S' H' xx W' hc hd => by
    unfold rangeD at hd
    rw [List.getElem?_map] at hd
    by_cases hl : i < n
    · rw [List.getElem?_range hl] at hd
      cases hd
      refine ⟨hl, fun y H2 ⟨e1, e2⟩ => ?_⟩
      subst e1
      rw [e2]
      exact ⟨Ext.refl _ _, W', .int⟩
    · rw [List.getElem?_eq_none (by simp; omega)] at hd
      cases hd
  stop := fun i ρ' S' H' xx W' hc hi => by
    have : n ≤ i := by
      unfold rangeD at hi
      simpa using hi
    exact this
def wiRange1 (wr : WA) : WI := fun τ S R => wr τ S fun ds S1 => ∃ j : Int, ds = [.int j] ∧ -(2 ^ 62) ≤ j ∧ j < 2 ^ 62 ∧ R (rangeD 0 j.toNat) (fun _ => True) S1
def wiRange2 (wr : WA) : WI := fun τ S R => wr τ S fun ds S1 => ∃ i j : Int, ds = [.int i, .int j] ∧ (-(2 ^ 62) ≤ i ∧ i < 2 ^ 62 ∧ -(2 ^ 62) ≤ j ∧ j < 2 ^ 62) ∧ R (rangeD i (j - i).toNat) (fun _ => True) S1
theorem VRs.one_of {K : PySem.W.Frag} {ρ : List Addr} {H : Hp} {d : D} {vs : List V} (h : VRs K ρ H [d] vs) : ∃ v, vs = [v] ∧ VR K ρ H d v := by
  unfold VRs at h
  obtain ⟨v, vr, rfl, h1, h2⟩ := h
  unfold VRs at h2
  subst h2
  exact ⟨v, rfl, h1⟩
theorem VRs.two_of {K : PySem.W.Frag} {ρ : List Addr} {H : Hp} {d c : D} {vs : List V} (h : VRs K ρ H [d, c] vs) : ∃ v u, vs = [v, u] ∧ VR K ρ H d v ∧ VR K ρ H c u := by
  unfold VRs at h
  obtain ⟨v, vr, rfl, h1, h2⟩ := h
  obtain ⟨u, rfl, h3⟩ := h2.one_of
  exact ⟨v, u, rfl, h1, h3⟩
theorem VRs.three_of {K : PySem.W.Frag} {ρ : List Addr} {H : Hp} {d c b : D} {vs : List V} (h : VRs K ρ H [d, c, b] vs) : ∃ v u t, vs = [v, u, t] ∧ VR K ρ H d v ∧ VR K ρ H c u ∧ VR K ρ H b t := by
  unfold VRs at h
  obtain ⟨v, vr, rfl, h1, h2⟩ := h
  obtain ⟨u, t, rfl, h3, h4⟩ := h2.two_of
  exact ⟨v, u, t, rfl, h1, h3, h4⟩
theorem di_range1 {tg a : Expr} {wr : WA} {p pos : Pos} (hm : X.mg "range" = none) (hg : Gl X "range") (ha : PA X [a] (dA X wr)) (hs : starEach [a] X.env = [(false, eval a X.env)] := by rfl) : PI X tg (.Call (.Name "range" p) [a] [] pos) (dI X (wiRange1 wr)) :=
  PI.imp (pi_range1 hg hm ha hs) fun σ H R ⟨ρ, τ, S, Rd, W, er, h, p⟩ => ⟨ρ, τ, S, _, W, er, h, fun ds S1 ⟨j, e, b1, b2, h1⟩ ρ1 H1 vs x1 W1 r => by
    subst e
    obtain ⟨v, rfl, r1⟩ := r.one_of
    cases r1.int_of
    exact ⟨j, rfl, b1, b2, p _ _ S1 h1 ρ1 H1 _ x1 W1 (jr_range 0 _)⟩⟩
theorem di_range2 {tg a b : Expr} {wr : WA} {p pos : Pos} (hm : X.mg "range" = none) (hg : Gl X "range") (ha : PA X [a, b] (dA X wr)) (hs : starEach [a, b] X.env = [(false, eval a X.env), (false, eval b X.env)] := by rfl) (hs2 : starEach [b] X.env = [(false, eval b X.env)] := by rfl) :
    PI X tg (.Call (.Name "range" p) [a, b] [] pos) (dI X (wiRange2 wr)) :=
  PI.imp (pi_range2 hg hm ha hs hs2) fun σ H R ⟨ρ, τ, S, Rd, W, er, h, p⟩ => ⟨ρ, τ, S, _, W, er, h, fun ds S1 ⟨i, j, e, b1, h1⟩ ρ1 H1 vs x1 W1 r => by
    subst e
    obtain ⟨v, u, rfl, r1, r2⟩ := r.two_of
    cases r1.int_of
    cases r2.int_of
    exact ⟨i, j, rfl, b1, p _ _ S1 h1 ρ1 H1 _ x1 W1 (jr_range i _)⟩⟩

/-! ### zip -/
def zipD (xs ys : List D) : List D := (xs.zip ys).map fun p => D.tup [p.1, p.2]
theorem zip_get {xs ys : List D} {i : Nat} {d : D} (h : (zipD xs ys)[i]? = some d) : ∃ x y, xs[i]? = some x ∧ ys[i]? = some y ∧ d = .tup [x, y] := by
  unfold zipD at h
  rw [List.getElem?_map] at h
  cases e : (xs.zip ys)[i]? with
  | none =>
    rw [e] at h
    cases h
  | some p =>
    rw [e] at h
    cases h
    obtain ⟨h1, h2⟩ := List.getElem?_zip_eq_some.mp e
    exact ⟨_, _, h1, h2, rfl⟩
theorem jr_zip {ρ : List Addr} {H : Hp} {a b : Addr} {xs ys : List D} {ck1 ck2 : Sto → Prop} (h1 : LstHas X ρ H a xs ck1) (h2 : LstHas X ρ H b ys ck2) : JR X (Itz X.K a b) ρ H (zipD xs ys) (fun S => ck1 S ∧ ck2 S) where
  go := fun i d ρ' S' H' x W' hc hd => by
    obtain ⟨d1, d2, g1, g2, rfl⟩ := zip_get hd
    obtain ⟨vs, q1, r1⟩ := h1 ρ' S' H' x W' hc.1
    obtain ⟨us, q2, r2⟩ := h2 ρ' S' H' x W' hc.2
    obtain ⟨v, e1, k1⟩ := r1.get g1
    obtain ⟨u, e2, k2⟩ := r2.get g2
    refine ⟨⟨vs, us, v, u, q1, q2, e1, e2⟩, fun y H2 ⟨T, x', y', e, hT, hH, p1, p2⟩ => ?_⟩
    have e3 := p1 vs q1
    have e4 := p2 us q2
    rw [e1] at e3
    rw [e2] at e4
    cases e3
    cases e4
    subst e hH
    exact ⟨ext_new hT, W'.laid hT, .tup (.inl upd_same) (.cons (k1.ext W'.sep (ext_new hT)) (.cons (k2.ext W'.sep (ext_new hT)) .nil))⟩
  stop := fun i ρ' S' H' x W' hc hi => by
    obtain ⟨vs, q1, r1⟩ := h1 ρ' S' H' x W' hc.1
    obtain ⟨us, q2, r2⟩ := h2 ρ' S' H' x W' hc.2
    refine ⟨vs, us, q1, q2, ?_⟩
    rw [r1.length, r2.length]
    unfold zipD at hi
    rw [List.length_map, List.length_zip] at hi
    omega
theorem jr_zipT {ρ : List Addr} {H : Hp} {a b : Addr} {xs ys : List D} (h1 : TupHas X ρ H a xs) (h2 : TupHas X ρ H b ys) : JR X (ItzT X.K a b) ρ H (zipD xs ys) (fun S => True ∧ True) where
  go := fun i d ρ' S' H' x W' hc hd => by
    obtain ⟨d1, d2, g1, g2, rfl⟩ := zip_get hd
    obtain ⟨vs, q1, r1⟩ := h1 ρ' S' H' x W'
    obtain ⟨us, q2, r2⟩ := h2 ρ' S' H' x W'
    obtain ⟨v, e1, k1⟩ := r1.get g1
    obtain ⟨u, e2, k2⟩ := r2.get g2
    refine ⟨⟨vs, us, v, u, q1, q2, e1, e2⟩, fun y H2 ⟨T, x', y', e, hT, hH, p1, p2⟩ => ?_⟩
    have e3 := p1 vs q1
    have e4 := p2 us q2
    rw [e1] at e3
    rw [e2] at e4
    cases e3
    cases e4
    subst e hH
    exact ⟨ext_new hT, W'.laid hT, .tup (.inl upd_same) (.cons (k1.ext W'.sep (ext_new hT)) (.cons (k2.ext W'.sep (ext_new hT)) .nil))⟩
  stop := fun i ρ' S' H' x W' hc hi => by
    obtain ⟨vs, q1, r1⟩ := h1 ρ' S' H' x W'
    obtain ⟨us, q2, r2⟩ := h2 ρ' S' H' x W'
    refine ⟨vs, us, q1, q2, ?_⟩
    rw [r1.length, r2.length]
    unfold zipD at hi
    rw [List.length_map, List.length_zip] at hi
    omega
/-- a list's items (not a tuple's) -/
def lstD (S : Sto) : D → Option (List D × (Sto → Prop))
  | .fls ds => some (ds, fun _ => True)
  | .loc l => match S[l]? with
    | some (.lst xs) => some (xs, fun S' => S'[l]? = some (.lst xs))
    | _ => none
  | _ => none
theorem lstD_ok {ρ : List Addr} {S : Sto} {H : Hp} {d : D} {v : V} {p : List D × (Sto → Prop)} (W : XW X ρ S H) (r : VR X.K ρ H d v) (e : lstD S d = some p) : ∃ a vs, v = .ref a ∧ SqL X.K H a vs ∧ VRs X.K ρ H p.1 vs ∧ LstHas X ρ H a p.1 p.2 := by
  cases d with
  | fls ds =>
    obtain ⟨a, vs, rfl, h2, h3⟩ := r.fls_of
    have e' : some (ds, fun _ => True) = some p := e
    cases e'
    exact ⟨a, vs, rfl, h2.sq, h3, lstHas_fls W h2 h3⟩
  | loc l =>
    obtain ⟨a, h2, rfl⟩ := r.loc_of
    simp only [lstD] at e
    split at e
    · rename_i xs h3
      cases e
      obtain ⟨vs, h4, h5⟩ := W.obj l a _ h2 h3
      exact ⟨a, vs, rfl, SqL.of h4, h5, lstHas_loc h2⟩
    · cases e
  | tup _ => cases e
  | str _ => cases e
  | non => cases e
  | bl _ => cases e
  | int _ => cases e
def wiZip (wr : WA) : WI := fun τ S R => wr τ S fun ds S1 => ∃ d1 d2, ds = [d1, d2] ∧ ((∃ xs ys, d1 = .tup xs ∧ d2 = .tup ys ∧ R (zipD xs ys) (fun S => True ∧ True) S1) ∨
  ∃ p q, lstD S1 d1 = some p ∧ lstD S1 d2 = some q ∧ R (zipD p.1 q.1) (fun S => p.2 S ∧ q.2 S) S1)
theorem di_zip {e e2 : Expr} {wr : WA} {p pos tpos : Pos} {elts : List Expr} {kk : Nat} (hm : X.mg "zip" = none) (hg : Gl X "zip") (ha : PA X [e, e2] (dA X wr))
    (hs : starEach [e, e2] X.env = (false, eval e X.env) :: starEach [e2] X.env := by rfl) (hpl : (backTo pos (starEach [e2] X.env)).any (·.1) = false := by rfl) :
    PI X (.Tuple elts kk tpos) (.Call (.Name "zip" p) [e, e2] [] pos) (dI X (wiZip wr)) :=
  PI.imp (pi_zipA hg hm ha hs hpl) fun σ H R ⟨ρ, τ, S, Rd, W, er, h, p⟩ => ⟨ρ, τ, S, _, W, er, h, fun ds S1 ⟨d1, d2, e1, h1⟩ ρ1 H1 vs x1 W1 r => by
    subst e1
    obtain ⟨v, u, rfl, r1, r2⟩ := r.two_of
    rcases h1 with ⟨xs, ys, rfl, rfl, h1⟩ | ⟨p1, p2, e1, e2, h1⟩
    · obtain ⟨a, vs, rfl, h2, h3⟩ := r1.tup_of
      obtain ⟨b, us, rfl, h4, h5⟩ := r2.tup_of
      exact ⟨a, b, vs, us, rfl, .inr ⟨h2.sq, h4.sq, p _ _ S1 h1 ρ1 H1 _ x1 W1 (jr_zipT (tupHas W1 h2 h3) (tupHas W1 h4 h5))⟩⟩
    · obtain ⟨a, vs, rfl, h2, h3, l1⟩ := lstD_ok W1 r1 e1
      obtain ⟨b, us, rfl, h4, h5, l2⟩ := lstD_ok W1 r2 e2
      exact ⟨a, b, vs, us, rfl, .inl ⟨h2, h4, p _ _ S1 h1 ρ1 H1 _ x1 W1 (jr_zip l1 l2)⟩⟩⟩

/-! ### enumerate of a list -/
def enumD (xs : List D) : List D := xs.zipIdx.map fun p => D.tup [.int (p.2 : Nat), p.1]
theorem enum_get {xs : List D} {i : Nat} {d : D} (h : (enumD xs)[i]? = some d) : ∃ x, xs[i]? = some x ∧ d = .tup [.int (i : Nat), x] := by
  unfold enumD at h
  rw [List.getElem?_map, List.getElem?_zipIdx] at h
  cases e : xs[i]? with
  | none =>
    rw [e] at h
    cases h
  | some x =>
    rw [e] at h
    simp at h
    exact ⟨x, rfl, h.symm⟩
theorem jr_enum {ρ : List Addr} {H : Hp} {a : Addr} {xs : List D} {chk : Sto → Prop} (h : LstHas X ρ H a xs chk) : JR X (Ite X.K a) ρ H (enumD xs) chk where
  go := fun i d ρ' S' H' x W' hc hd => by
    obtain ⟨d1, g1, rfl⟩ := enum_get hd
    obtain ⟨vs, q1, r1⟩ := h ρ' S' H' x W' hc
    obtain ⟨v, e1, k1⟩ := r1.get g1
    refine ⟨⟨vs, v, q1, e1⟩, fun y H2 ⟨T, x', e, hT, hH, p1⟩ => ?_⟩
    have e3 := p1 vs q1
    rw [e1] at e3
    cases e3
    subst e hH
    exact ⟨ext_new hT, W'.laid hT, .tup (.inl upd_same) (.cons .int (.cons (k1.ext W'.sep (ext_new hT)) .nil))⟩
  stop := fun i ρ' S' H' x W' hc hi => by
    obtain ⟨vs, h1, h2⟩ := h ρ' S' H' x W' hc
    refine ⟨vs, h1, ?_⟩
    rw [h2.length]
    unfold enumD at hi
    simpa using hi
def wiEnum (wr : WA) : WI := fun τ S R => wr τ S fun ds S1 => ∃ d p, ds = [d] ∧ lstD S1 d = some p ∧ R (enumD p.1) p.2 S1
theorem di_enum {e : Expr} {wr : WA} {p pos tpos : Pos} {elts : List Expr} {kk : Nat} (hm : X.mg "enumerate" = none) (hg : Gl X "enumerate") (ha : PA X [e] (dA X wr)) (hs : starEach [e] X.env = [(false, eval e X.env)] := by rfl) :
    PI X (.Tuple elts kk tpos) (.Call (.Name "enumerate" p) [e] [] pos) (dI X (wiEnum wr)) :=
  PI.imp (pi_enum hg hm ha hs) fun σ H R ⟨ρ, τ, S, Rd, W, er, h, p⟩ => ⟨ρ, τ, S, _, W, er, h, fun ds S1 ⟨d, pr, e1, e2, h1⟩ ρ1 H1 vs x1 W1 r => by
    subst e1
    obtain ⟨v, rfl, r1⟩ := r.one_of
    obtain ⟨a, vs, rfl, h2, h3, l1⟩ := lstD_ok W1 r1 e2
    exact ⟨a, vs, rfl, h2, p _ _ S1 h1 ρ1 H1 _ x1 W1 (jr_enum l1)⟩⟩
end
end Dl

namespace Dl
open PySem L2

/-! ## the operators by values -/
/-- a rule of two ints -/
theorem opD_int {X : Cx} {f : Value → Value → Sem Value} {C : Int → Int → Prop} {g : Int → Int → V} {G : Int → Int → D} (h : OpR X f (rI C g)) (hg : ∀ ρ H i j, VR X.K ρ H (G i j) (g i j)) :
    OpR X f (rD X fun d1 d2 S R => ∃ i j, d1 = .int i ∧ d2 = .int j ∧ C i j ∧ R (G i j) S) :=
  OpR.imp h fun x y H Q ⟨ρ, S, d1, d2, R, W, r1, r2, ⟨i, j, e1, e2, c, q⟩, p⟩ => by
    subst e1 e2
    exact ⟨i, j, r1.int_of, r2.int_of, c, p _ _ q ρ H _ (Ext.refl _ _) W (hg _ _ _ _)⟩
theorem opD_int0 {X : Cx} {f : Value → Value → Sem Value} {g : Int → Int → V} {G : Int → Int → D} (h : OpR X f (rI0 g)) (hg : ∀ ρ H i j, VR X.K ρ H (G i j) (g i j)) :
    OpR X f (rD X fun d1 d2 S R => ∃ i j, d1 = .int i ∧ d2 = .int j ∧ R (G i j) S) :=
  OpR.imp h fun x y H Q ⟨ρ, S, d1, d2, R, W, r1, r2, ⟨i, j, e1, e2, q⟩, p⟩ => by
    subst e1 e2
    exact ⟨i, j, r1.int_of, r2.int_of, p _ _ q ρ H _ (Ext.refl _ _) W (hg _ _ _ _)⟩
def dAddI : DOp := fun d1 d2 S R => ∃ i j, d1 = .int i ∧ d2 = .int j ∧ R (.int (i + j)) S
def dSub : DOp := fun d1 d2 S R => ∃ i j, d1 = .int i ∧ d2 = .int j ∧ R (.int (i - j)) S
def dMulI : DOp := fun d1 d2 S R => ∃ i j, d1 = .int i ∧ d2 = .int j ∧ CMulW i j ∧ R (.int (i * j)) S
def dMod : DOp := fun d1 d2 S R => ∃ i j, d1 = .int i ∧ d2 = .int j ∧ j ≠ 0 ∧ R (.int (i.fmod j)) S
def dDiv : DOp := fun d1 d2 S R => ∃ i j, d1 = .int i ∧ d2 = .int j ∧ CDivW i j ∧ R (.int (i / j)) S
def dPow : DOp := fun d1 d2 S R => ∃ i j, d1 = .int i ∧ d2 = .int j ∧ CPow i j ∧ R (.int (i ^ j.toNat)) S
def dLtI : DOp := fun d1 d2 S R => ∃ i j, d1 = .int i ∧ d2 = .int j ∧ R (.bl (decide (i < j))) S
def dLe : DOp := fun d1 d2 S R => ∃ i j, d1 = .int i ∧ d2 = .int j ∧ R (.bl (decide (i ≤ j))) S
def dGt : DOp := fun d1 d2 S R => ∃ i j, d1 = .int i ∧ d2 = .int j ∧ R (.bl (decide (j < i))) S
def dGe : DOp := fun d1 d2 S R => ∃ i j, d1 = .int i ∧ d2 = .int j ∧ R (.bl (decide (j ≤ i))) S
section
variable {X : Cx}
theorem od_addI : OpR X (binaryOp .Add) (rD X dAddI) := opD_int0 op_add fun _ _ _ _ => .int
theorem od_sub : OpR X (binaryOp .Sub) (rD X dSub) := opD_int0 op_sub fun _ _ _ _ => .int
theorem od_mulI : OpR X (binaryOp .Mult) (rD X dMulI) := opD_int op_mulW fun _ _ _ _ => .int
theorem od_mod : OpR X (binaryOp .Mod) (rD X dMod) := opD_int op_modN fun _ _ _ _ => .int
theorem od_div : OpR X (binaryOp .FloorDiv) (rD X dDiv) := opD_int op_fdivW fun _ _ _ _ => .int
theorem od_pow : OpR X (binaryOp .Pow) (rD X dPow) := opD_int op_pow fun _ _ _ _ => .int
theorem od_ltI : OpR X (compareOp .Lt) (rD X dLtI) := opD_int0 op_lt fun _ _ _ _ => .bl
theorem od_le : OpR X (compareOp .LtE) (rD X dLe) := opD_int0 op_le fun _ _ _ _ => .bl
theorem od_gt : OpR X (compareOp .Gt) (rD X dGt) := opD_int0 op_gt fun _ _ _ _ => .bl
theorem od_ge : OpR X (compareOp .GtE) (rD X dGe) := opD_int0 op_ge fun _ _ _ _ => .bl

/-! ### + of texts, tuples, lists -/
def dAddS : DOp := fun d1 d2 S R => ∃ x y, d1 = .str x ∧ d2 = .str y ∧ x.length + y.length ≤ sizeLine ∧ R (.str (x ++ y)) S
def dAddT : DOp := fun d1 d2 S R => ∃ xs ys, d1 = .tup xs ∧ d2 = .tup ys ∧ xs.length + ys.length ≤ sizeLine ∧ R (.tup (xs ++ ys)) S
def dAddL : DOp := fun d1 d2 S R => ∃ l m xs ys, d1 = .loc l ∧ d2 = .loc m ∧ S[l]? = some (.lst xs) ∧ S[m]? = some (.lst ys) ∧ xs.length + ys.length ≤ sizeLine ∧ R (.loc S.length) (S ++ [.lst (xs ++ ys)])
theorem od_addS : OpR X (binaryOp .Add) (rD X dAddS) := OpR.imp op_add_str fun x y H Q ⟨ρ, S, d1, d2, R, W, r1, r2, ⟨i, j, e1, e2, hz, q⟩, p⟩ => by
  subst e1 e2
  exact ⟨i, j, r1.str_of, r2.str_of, hz, p _ _ q ρ H _ (Ext.refl _ _) W .str⟩
theorem VRs.nil_of {K : PySem.W.Frag} {ρ : List Addr} {H : Hp} {vs : List V} (h : VRs K ρ H [] vs) : vs = [] := by unfold VRs at h; exact h
theorem VRs.of_nil {K : PySem.W.Frag} {ρ : List Addr} {H : Hp} {ds : List D} (h : VRs K ρ H ds []) : ds = [] := by
  have := h.length
  simpa using this.symm
theorem od_addT : OpR X (binaryOp .Add) (rD X dAddT) := OpR.imp op_catA fun x y H Q ⟨ρ, S, d1, d2, R, W, r1, r2, ⟨xs, ys, e1, e2, hz, q⟩, p⟩ => by
  subst e1 e2
  obtain ⟨a, vs, rfl, h1, h2⟩ := r1.tup_of
  obtain ⟨b, us, rfl, h3, h4⟩ := r2.tup_of
  refine ⟨a, b, vs, us, rfl, rfl, h1.sq, h3.sq, by rw [h2.length, h4.length]; exact hz, fun e => ?_, fun n e => ?_, fun n n2 c hc => ?_⟩
  · subst e
    have e2 := h2.of_nil
    subst e2
    exact p _ _ q ρ H _ (Ext.refl _ _) W (.tup h3 h4)
  · subst e
    have e2 := h4.of_nil
    subst e2
    rw [List.append_nil] at q
    exact p _ _ q ρ H _ (Ext.refl _ _) W (.tup h1 h2)
  · exact new_tup W (h2.append h4) q p hc
theorem od_addL : OpR X (binaryOp .Add) (rD X dAddL) := OpR.imp op_cat fun x y H Q ⟨ρ, S, d1, d2, R, W, r1, r2, ⟨l, m, xs, ys, e1, e2, g1, g2, hz, q⟩, p⟩ => by
  subst e1 e2
  obtain ⟨a, h1, rfl⟩ := r1.loc_of
  obtain ⟨b, h2, rfl⟩ := r2.loc_of
  obtain ⟨vs, h3, h4⟩ := W.obj l a _ h1 g1
  obtain ⟨us, h5, h6⟩ := W.obj m b _ h2 g2
  exact ⟨a, b, vs, us, rfl, rfl, h3, h5, by rw [h4.length, h6.length]; exact hz, fun c hc => new_lst W (h4.append h6) q p hc⟩
def dAdd : DOp := opOr dAddI (opOr dAddS (opOr dAddT dAddL))
theorem od_add : OpR X (binaryOp .Add) (rD X dAdd) := OpD.or od_addI (OpD.or od_addS (OpD.or od_addT od_addL))
def dMulL : DOp := fun d1 d2 S R => ∃ l xs k, d1 = .loc l ∧ d2 = .int k ∧ S[l]? = some (.lst xs) ∧ -(2 ^ 63) ≤ k ∧ k < 2 ^ 63 ∧ xs.length * k.toNat ≤ sizeLine ∧ R (.loc S.length) (S ++ [.lst (List.replicate k.toNat xs).flatten])
theorem VRs.rep {K : PySem.W.Frag} {ρ : List Addr} {H : Hp} {ds : List D} {vs : List V} (h : VRs K ρ H ds vs) : ∀ k : Nat, VRs K ρ H (List.replicate k ds).flatten (List.replicate k vs).flatten
  | 0 => .nil
  | k + 1 => by
    rw [List.replicate_succ, List.replicate_succ, List.flatten_cons, List.flatten_cons]
    exact h.append (h.rep k)
theorem od_mulL : OpR X (binaryOp .Mult) (rD X dMulL) := OpR.imp op_rep fun x y H Q ⟨ρ, S, d1, d2, R, W, r1, r2, ⟨l, xs, k, e1, e2, g1, b1, b2, hz, q⟩, p⟩ => by
  subst e1 e2
  obtain ⟨a, h1, rfl⟩ := r1.loc_of
  obtain ⟨vs, h3, h4⟩ := W.obj l a _ h1 g1
  exact ⟨a, k, vs, rfl, r2.int_of, h3, b1, b2, by rw [h4.length]; exact hz, fun c hc => new_lst W (h4.rep _) q p hc⟩

/-! ### == and != -/
/-- a value's key is what it is by == -/
theorem nested_of {pins : List (Addr × Obj)} {σ : St} {H : Hp} {s : Shared} {ρ : List Addr} (I : L2.Inv X pins σ H s) : ∀ (d : D) (k : NestedKey) (v : V) (u : Value), keyOf d = some k → VR X.K ρ H d v → RelV v u → NestedIs s.heap k u
  | .non, k, v, u, e, h, r => by
    cases h.non_of
    cases (show u = Value.none from r)
    have e' : some NestedKey.none = some k := e
    cases e'
    exact .none
  | .bl b, k, v, u, e, h, r => by
    cases h.bl_of
    cases (show u = Value.bool b from r)
    have e' : some (NestedKey.num (if b then 1 else 0)) = some k := e
    cases e'
    exact .bool rfl
  | .int i, k, v, u, e, h, r => by
    cases h.int_of
    obtain ⟨t, rfl⟩ := (show ∃ t, u = Value.int i t from r)
    have e' : some (NestedKey.num i) = some k := e
    cases e'
    exact .int _ _
  | .str x, k, v, u, e, h, r => by
    cases h.str_of
    obtain ⟨t, rfl⟩ := (show ∃ t, u = Value.str x t from r)
    have e' : some (NestedKey.text x) = some k := e
    cases e'
    exact .text _ _
  | .tup ds, k, v, u, e, h, r => by
    obtain ⟨a, vs, rfl, h1, h2⟩ := h.tup_of
    cases (show u = Value.ref a from r)
    have e' : (keyOf.keysOf ds).map NestedKey.tup = some k := e
    cases e2 : keyOf.keysOf ds with
    | none =>
      rw [e2] at e'
      cases e'
    | some ks =>
      rw [e2] at e'
      cases e'
      obtain ⟨its, rv, ⟨o, ho, hc, n, hd⟩, _⟩ := I.tuple h1.sq
      exact .tup ho hc hd (by simpa using go ds ks vs its e2 h2 rv)
  | .fls _, _, _, _, e, _, _ => by cases e
  | .loc _, _, _, _, e, _, _ => by cases e
where go : ∀ (ds : List D) (ks : List NestedKey) (vs : List V) (us : List Value), keyOf.keysOf ds = some ks → VRs X.K ρ H ds vs → Vals vs us → NestedAll s.heap ks us
  | [], ks, vs, us, e, h, r => by
    cases h.nil_of
    cases r
    have e' : some [] = some ks := e
    cases e'
    exact .nil
  | d :: ds, ks, vs, us, e, h, r => by
    unfold VRs at h
    obtain ⟨v, vr, rfl, h1, h2⟩ := h
    cases r with
    | cons r1 r2 =>
      unfold keyOf.keysOf at e
      cases e1 : keyOf d with
      | none =>
        rw [e1] at e
        cases e
      | some k =>
        cases e2 : keyOf.keysOf ds with
        | none =>
          rw [e1, e2] at e
          cases e
        | some ks' =>
          rw [e1, e2] at e
          cases e
          exact .cons (nested_of I d k v _ e1 h1 r1) (go ds ks' vr _ e2 h2 r2)
end
/-- == and != of keys at the top -/
theorem rcAt_key {A : Around} {s : Shared} : ∀ (x y : NestedKey) (a b : Value), NestedIs s.heap x a → NestedIs s.heap y b → A.units + min x.depth y.depth + 1 < cLine → SeqAt.RcAt A s a b (NestedKey.beq x y) ∧ SeqAt.RcNeAt A s a b (!NestedKey.beq x y)
  | .none, _, _, _, ra, rb, hu => by
    cases ra
    cases rb with
    | none => exact ⟨SeqAt.RcAt.none_none, SeqAt.RcNeAt.none_none⟩
    | bool e => exact ⟨SeqAt.RcAt.none_bool _, SeqAt.RcNeAt.none_bool _⟩
    | int y u => exact ⟨SeqAt.RcAt.none_int _ _, SeqAt.RcNeAt.none_int _ _⟩
    | text y u => exact ⟨SeqAt.RcAt.none_str _ _, SeqAt.RcNeAt.none_str _ _⟩
    | tup k1 k2 k3 k4 => exact ⟨SeqAt.RcAt.none_tuple ⟨_, k1, k2, _, k3⟩ (by omega), SeqAt.RcNeAt.none_tuple ⟨_, k1, k2, _, k3⟩ (by omega)⟩
  | .num i, _, _, _, ra, rb, hu => by
    cases ra with
    | int _ t =>
      cases rb with
      | none => exact ⟨SeqAt.RcAt.int_none _ _, SeqAt.RcNeAt.int_none _ _⟩
      | bool e => subst e; exact ⟨SeqAt.RcAt.int_bool _ _ _, SeqAt.RcNeAt.int_bool _ _ _⟩
      | int y u => exact ⟨SeqAt.RcAt.int_int _ _ _ _, SeqAt.RcNeAt.int_int _ _ _ _⟩
      | text y u => exact ⟨SeqAt.RcAt.int_str _ _ _ _, SeqAt.RcNeAt.int_str _ _ _ _⟩
      | tup k1 k2 k3 k4 => exact ⟨SeqAt.RcAt.int_tuple _ _ ⟨_, k1, k2, _, k3⟩ (by omega), SeqAt.RcNeAt.int_tuple _ _ ⟨_, k1, k2, _, k3⟩ (by omega)⟩
    | @bool c _ e =>
      cases rb with
      | none => exact ⟨SeqAt.RcAt.bool_none _, SeqAt.RcNeAt.bool_none _⟩
      | @bool d i2 e' =>
        have h : NestedKey.beq (.num i) (.num i2) = (c == d) := by
          subst e e'
          cases c <;> cases d <;> rfl
        rw [h]
        exact ⟨SeqAt.RcAt.bool_bool _ _, SeqAt.RcNeAt.bool_bool _ _⟩
      | int y u => subst e; exact ⟨SeqAt.RcAt.bool_int _ _ _, SeqAt.RcNeAt.bool_int _ _ _⟩
      | text y u => exact ⟨SeqAt.RcAt.bool_str _ _ _, SeqAt.RcNeAt.bool_str _ _ _⟩
      | tup k1 k2 k3 k4 => exact ⟨SeqAt.RcAt.bool_tuple _ ⟨_, k1, k2, _, k3⟩ (by omega), SeqAt.RcNeAt.bool_tuple _ ⟨_, k1, k2, _, k3⟩ (by omega)⟩
  | .text x, _, _, _, ra, rb, hu => by
    cases ra with
    | text _ t =>
      cases rb with
      | none => exact ⟨SeqAt.RcAt.str_none _ _, SeqAt.RcNeAt.str_none _ _⟩
      | bool e => exact ⟨SeqAt.RcAt.str_bool _ _ _, SeqAt.RcNeAt.str_bool _ _ _⟩
      | int y u => exact ⟨SeqAt.RcAt.str_int _ _ _ _, SeqAt.RcNeAt.str_int _ _ _ _⟩
      | text y u => exact ⟨SeqAt.RcAt.str_str _ _ _ _, SeqAt.RcNeAt.str_str _ _ _ _⟩
      | tup k1 k2 k3 k4 => exact ⟨SeqAt.RcAt.str_tuple _ _ ⟨_, k1, k2, _, k3⟩ (by omega), SeqAt.RcNeAt.str_tuple _ _ ⟨_, k1, k2, _, k3⟩ (by omega)⟩
  | .tup xs, _, _, _, ra, rb, hu => by
    cases ra with
    | @tup l o vs n _ h1 h2 h3 h4 =>
      have hl : s.heap.IsTuple l vs := ⟨_, h1, h2, _, h3⟩
      cases rb with
      | none => exact ⟨SeqAt.RcAt.tuple_none hl (by omega), SeqAt.RcNeAt.tuple_none hl (by omega)⟩
      | @bool d _ e => exact ⟨SeqAt.RcAt.tuple_bool d hl (by omega), SeqAt.RcNeAt.tuple_bool d hl (by omega)⟩
      | int y u => exact ⟨SeqAt.RcAt.tuple_int y u hl (by omega), SeqAt.RcNeAt.tuple_int y u hl (by omega)⟩
      | text y u => exact ⟨SeqAt.RcAt.tuple_str y u hl (by omega), SeqAt.RcNeAt.tuple_str y u hl (by omega)⟩
      | @tup l' o' vs' n' ys k1 k2 k3 k4 =>
        have hl' : s.heap.IsTuple l' vs' := ⟨_, k1, k2, _, k3⟩
        have n1 : vs.size = xs.length := by simpa using NestedAll.length _ _ h4
        have n2 : vs'.size = ys.length := by simpa using NestedAll.length _ _ k4
        have he : ∀ j (j1 : j < vs.size) (j2 : j < vs'.size), SeqAt.EqAt A.in1 s vs[j] vs'[j] (keyEqAt xs ys j) := fun j j1 j2 => by
          have hd : A.in1.units + min (NestedKey.depthAll xs) (NestedKey.depthAll ys) < cLine := by
            simp only [NestedKey.depth] at hu
            show A.units + 1 + _ < _
            omega
          have := eqAt_keys xs ys A.in1 s vs.toList vs'.toList h4 k4 hd j (by simpa using j1) (by simpa using j2)
          simpa using this
        have e : NestedKey.beq (.tup xs) (.tup ys) = ((List.range (min vs.size vs'.size)).all (keyEqAt xs ys) && vs.size == vs'.size) := by
          rw [n1, n2]
          exact (beqAll_eq xs ys).symm
        rw [e]
        exact ⟨SeqAt.RcAt.tuples hl hl' (by omega) he, SeqAt.RcNeAt.tuples hl hl' (by omega) he⟩
theorem beqAll_len : ∀ {xs ys : List NestedKey}, xs.length ≠ ys.length → NestedKey.beqAll xs ys = false
  | [], [], h => absurd rfl h
  | [], _ :: _, _ => rfl
  | _ :: _, [], _ => rfl
  | x :: xs, y :: ys, h => by
    unfold NestedKey.beqAll
    rw [beqAll_len (xs := xs) (ys := ys) (fun e => h (by simp [e])), Bool.and_false]
/-- two lists -/
theorem rcAt_lists {A : Around} {s : Shared} {l b : Addr} {us ws : Array Value} {xs ys : List NestedKey} (hl : s.heap.IsList l us) (hb : s.heap.IsList b ws) (h1 : NestedAll s.heap xs us.toList) (h2 : NestedAll s.heap ys ws.toList)
    (hu : A.units + min (NestedKey.depthAll xs) (NestedKey.depthAll ys) + 1 < cLine) : SeqAt.RcAt A s (.ref l) (.ref b) (NestedKey.beqAll xs ys) ∧ SeqAt.RcNeAt A s (.ref l) (.ref b) (!NestedKey.beqAll xs ys) := by
  have n1 : us.size = xs.length := by simpa using NestedAll.length _ _ h1
  have n2 : ws.size = ys.length := by simpa using NestedAll.length _ _ h2
  have he : ∀ j (j1 : j < us.size) (j2 : j < ws.size), SeqAt.EqAt A.in1 s us[j] ws[j] (keyEqAt xs ys j) := fun j j1 j2 => by
    have hd : A.in1.units + min (NestedKey.depthAll xs) (NestedKey.depthAll ys) < cLine := by
      show A.units + 1 + _ < _
      omega
    have := eqAt_keys xs ys A.in1 s us.toList ws.toList h1 h2 hd j (by simpa using j1) (by simpa using j2)
    simpa using this
  by_cases hz : us.size = ws.size
  · have e : NestedKey.beqAll xs ys = (List.range us.size).all (keyEqAt xs ys) := by
      have hxy : xs.length = ys.length := by omega
      have hm : min xs.length ys.length = us.size := by omega
      rw [← beqAll_eq xs ys, hm, hxy]
      simp
    rw [e]
    exact ⟨SeqAt.RcAt.lists hl hb hz (by omega) he, SeqAt.RcNeAt.lists hl hb hz (by omega) he⟩
  · have hz' : (us.size != ws.size) = true := by simpa using hz
    rw [beqAll_len (by omega)]
    exact ⟨SeqAt.RcAt.lists_lengths hl hb hz' (by omega), SeqAt.RcNeAt.lists_lengths hl hb hz' (by omega)⟩
/-- a list and what is none -/
theorem rcAt_mixed {A : Around} {s : Shared} {l : Addr} {us : Array Value} {y : NestedKey} {b : Value} (hl : s.heap.IsList l us) (hb : NestedIs s.heap y b) (hu : A.units + 1 < cLine) :
    (SeqAt.RcAt A s (.ref l) b false ∧ SeqAt.RcNeAt A s (.ref l) b true) ∧ (SeqAt.RcAt A s b (.ref l) false ∧ SeqAt.RcNeAt A s b (.ref l) true) := by
  cases hb with
  | none => exact ⟨⟨SeqAt.RcAt.list_none hl (by omega), SeqAt.RcNeAt.list_none hl (by omega)⟩, ⟨SeqAt.RcAt.none_list hl (by omega), SeqAt.RcNeAt.none_list hl (by omega)⟩⟩
  | bool e => exact ⟨⟨SeqAt.RcAt.list_bool _ hl (by omega), SeqAt.RcNeAt.list_bool _ hl (by omega)⟩, ⟨SeqAt.RcAt.bool_list _ hl (by omega), SeqAt.RcNeAt.bool_list _ hl (by omega)⟩⟩
  | int y u => exact ⟨⟨SeqAt.RcAt.list_int _ _ hl (by omega), SeqAt.RcNeAt.list_int _ _ hl (by omega)⟩, ⟨SeqAt.RcAt.int_list _ _ hl (by omega), SeqAt.RcNeAt.int_list _ _ hl (by omega)⟩⟩
  | text y u => exact ⟨⟨SeqAt.RcAt.list_str _ _ hl (by omega), SeqAt.RcNeAt.list_str _ _ hl (by omega)⟩, ⟨SeqAt.RcAt.str_list _ _ hl (by omega), SeqAt.RcNeAt.str_list _ _ hl (by omega)⟩⟩
  | tup k1 k2 k3 k4 =>
    have hb : s.heap.IsTuple _ _ := ⟨_, k1, k2, _, k3⟩
    exact ⟨⟨SeqAt.RcAt.list_tuple hl hb (by omega), SeqAt.RcNeAt.list_tuple hl hb (by omega)⟩, ⟨SeqAt.RcAt.tuple_list hb hl (by omega), SeqAt.RcNeAt.tuple_list hb hl (by omega)⟩⟩

/-- what == tells of two values, where it is known -/
def eqD (S : Sto) (d1 d2 : D) : Option Bool :=
  match keyOf d1, keyOf d2 with
  | some k1, some k2 => if min k1.depth k2.depth ≤ 100 then some (NestedKey.beq k1 k2) else none
  | some _, none => (lstD S d2).map fun _ => false
  | none, some _ => (lstD S d1).map fun _ => false
  | none, none => match lstD S d1, lstD S d2 with
    | some p, some q => match keyOf.keysOf p.1, keyOf.keysOf q.1 with
      | some k1, some k2 => if min (NestedKey.depthAll k1) (NestedKey.depthAll k2) ≤ 100 then some (NestedKey.beqAll k1 k2) else none
      | _, _ => none
    | _, _ => none
section
variable {X : Cx} {pins : List (Addr × Obj)} {σ : St} {H : Hp} {s : Shared} {ρ : List Addr} {S : Sto}
theorem eqD_ok (hu : X.A.units + 150 < cLine) (I : L2.Inv X pins σ H s) (W : XW X ρ S H) {d1 d2 : D} {v1 v2 : V} {u1 u2 : Value} {b : Bool} (h1 : VR X.K ρ H d1 v1) (h2 : VR X.K ρ H d2 v2) (r1 : RelV v1 u1) (r2 : RelV v2 u2) (e : eqD S d1 d2 = some b) :
    SeqAt.RcAt X.A s u1 u2 b ∧ SeqAt.RcNeAt X.A s u1 u2 (!b) := by
  unfold eqD at e
  cases e1 : keyOf d1 with
  | some k1 =>
    have n1 := nested_of I d1 k1 v1 u1 e1 h1 r1
    cases e2 : keyOf d2 with
    | some k2 =>
      simp only [e1, e2] at e
      split at e
      · cases e
        exact rcAt_key k1 k2 u1 u2 n1 (nested_of I d2 k2 v2 u2 e2 h2 r2) (by omega)
      · cases e
    | none =>
      simp only [e1, e2] at e
      cases e3 : lstD S d2 with
      | none =>
        rw [e3] at e
        cases e
      | some p =>
        rw [e3] at e
        cases e
        obtain ⟨a, vs, rfl, g1, g2, g3⟩ := lstD_ok W h2 e3
        cases (show u2 = Value.ref a from r2)
        obtain ⟨its, rv, pl, hz⟩ := I.list g1
        exact (rcAt_mixed pl.isList n1 (by omega)).2
  | none =>
    cases e2 : keyOf d2 with
    | some k2 =>
      simp only [e1, e2] at e
      cases e3 : lstD S d1 with
      | none =>
        rw [e3] at e
        cases e
      | some p =>
        rw [e3] at e
        cases e
        obtain ⟨a, vs, rfl, g1, g2, g3⟩ := lstD_ok W h1 e3
        cases (show u1 = Value.ref a from r1)
        obtain ⟨its, rv, pl, hz⟩ := I.list g1
        exact (rcAt_mixed pl.isList (nested_of I d2 k2 v2 u2 e2 h2 r2) (by omega)).1
    | none =>
      simp only [e1, e2] at e
      cases e3 : lstD S d1 with
      | none =>
        rw [e3] at e
        cases e
      | some p =>
        cases e4 : lstD S d2 with
        | none =>
          rw [e3, e4] at e
          cases e
        | some q =>
          simp only [e3, e4] at e
          cases e5 : keyOf.keysOf p.1 with
          | none =>
            rw [e5] at e
            cases e
          | some k1 =>
            cases e6 : keyOf.keysOf q.1 with
            | none =>
              rw [e5, e6] at e
              cases e
            | some k2 =>
              simp only [e5, e6] at e
              split at e
              · cases e
                obtain ⟨a, vs, rfl, g1, g2, g3⟩ := lstD_ok W h1 e3
                obtain ⟨c, ws, rfl, g4, g5, g6⟩ := lstD_ok W h2 e4
                cases (show u1 = Value.ref a from r1)
                cases (show u2 = Value.ref c from r2)
                obtain ⟨its, rv, pl, hz⟩ := I.list g1
                obtain ⟨its2, rv2, pl2, hz2⟩ := I.list g4
                exact rcAt_lists pl.isList pl2.isList (by simpa using nested_of.go I p.1 k1 vs its e5 g2 rv) (by simpa using nested_of.go I q.1 k2 ws its2 e6 g5 rv2) (by omega)
              · cases e
end
def dEq : DOp := fun d1 d2 S R => ∃ b, eqD S d1 d2 = some b ∧ R (.bl b) S
def dNe : DOp := fun d1 d2 S R => ∃ b, eqD S d1 d2 = some b ∧ R (.bl (!b)) S
section
variable {X : Cx}
theorem od_eq (hu : X.A.units + 150 < cLine) : OpR X (compareOp .Eq) (rD X dEq) := fun pins s σ H x y v u Q I rx ry ⟨ρ, S, d1, d2, R, W, r1, r2, ⟨b, e, q⟩, p⟩ =>
  (eqD_ok hu I W r1 r2 rx ry e).1 X.prog X.w _ _ ⟨.bl b, H, I, rfl, p _ _ q ρ H _ (Ext.refl _ _) W .bl⟩
theorem od_ne (hu : X.A.units + 150 < cLine) : OpR X (compareOp .NotEq) (rD X dNe) := fun pins s σ H x y v u Q I rx ry ⟨ρ, S, d1, d2, R, W, r1, r2, ⟨b, e, q⟩, p⟩ =>
  (eqD_ok hu I W r1 r2 rx ry e).2 X.prog X.w _ _ ⟨.bl (!b), H, I, rfl, p _ _ q ρ H _ (Ext.refl _ _) W .bl⟩
end
end Dl

namespace Dl
open PySem L2

/-! ### in, not in: lists, tuples, texts -/
/-- the items of a list or tuple -/
def seqD (S : Sto) : D → Option (List D)
  | .tup ds => some ds
  | .fls ds => some ds
  | .loc l => match S[l]? with
    | some (.lst xs) => some xs
    | _ => none
  | _ => none
section
variable {X : Cx} {ρ : List Addr} {S : Sto} {H : Hp}
theorem seqD_ok {d : D} {v : V} {ds : List D} (W : XW X ρ S H) (r : VR X.K ρ H d v) (e : seqD S d = some ds) : ∃ a vs, v = .ref a ∧ (SqL X.K H a vs ∨ SqT X.K H a vs) ∧ VRs X.K ρ H ds vs := by
  cases d with
  | tup xs =>
    obtain ⟨a, vs, rfl, h2, h3⟩ := r.tup_of
    have e' : some xs = some ds := e
    cases e'
    exact ⟨a, vs, rfl, .inr h2.sq, h3⟩
  | fls xs =>
    obtain ⟨a, vs, rfl, h2, h3⟩ := r.fls_of
    have e' : some xs = some ds := e
    cases e'
    exact ⟨a, vs, rfl, .inl h2.sq, h3⟩
  | loc l =>
    obtain ⟨a, h2, rfl⟩ := r.loc_of
    simp only [seqD] at e
    split at e
    · rename_i xs h3
      cases e
      obtain ⟨vs, h4, h5⟩ := W.obj l a _ h2 h3
      exact ⟨a, vs, rfl, .inl (SqL.of h4), h5⟩
    · cases e
  | non => cases e
  | bl _ => cases e
  | int _ => cases e
  | str _ => cases e
/-- a key among keys -/
def inKeys (k : NestedKey) (ks : List NestedKey) : Bool := ks.any fun y => NestedKey.beq y k
/-- x in a list or tuple: all are keys -/
def inD (S : Sto) (x y : D) : Option Bool :=
  match seqD S y, keyOf x with
  | some ds, some k => match keyOf.keysOf ds with
    | some ks => if k.depth ≤ 100 then some (inKeys k ks) else none
    | none => none
  | _, _ => none
theorem eqAt_mem {A : Around} {s : Shared} {k : NestedKey} {v : Value} (hv : NestedIs s.heap k v) (hu : A.units + k.depth < cLine) : ∀ (ks : List NestedKey) (us : List Value), NestedAll s.heap ks us →
    ∃ f : Value → Bool, (∀ u ∈ us, SeqAt.EqAt A s u v (f u)) ∧ us.any f = inKeys k ks
  | ks, us, h => by
    classical
    refine ⟨fun u => if ∃ y, NestedIs s.heap y u ∧ NestedKey.beq y k = true then true else false, fun u hm => ?_, ?_⟩
    · have go : ∀ (ks : List NestedKey) (us : List Value), NestedAll s.heap ks us → u ∈ us → ∃ y, NestedIs s.heap y u := by
        intro ks
        induction ks with
        | nil => intro us h hm; cases h; cases hm
        | cons y ys ih =>
          intro us h hm
          cases h with
          | cons h1 h2 =>
            rcases List.mem_cons.mp hm with e | hm
            · exact ⟨y, by rw [e]; exact h1⟩
            · exact ih _ h2 hm
      obtain ⟨y, hy⟩ := go ks us h hm
      have q := eqAt_key y k A s u v hy hv (by omega)
      dsimp only
      by_cases hb : NestedKey.beq y k = true
      · rw [if_pos ⟨y, hy, hb⟩]
        rw [hb] at q
        exact q
      · rw [if_neg (fun ⟨z, hz, hbz⟩ => hb (by rw [NestedIs.inj y z u hy hz]; exact hbz))]
        have : NestedKey.beq y k = false := by simpa using hb
        rw [this] at q
        exact q
    · clear hu
      revert us
      induction ks with
      | nil => intro us h; cases h; rfl
      | cons y ys ih =>
        intro us h
        cases h with
        | @cons _ u _ us' h1 h2 =>
          unfold inKeys
          rw [List.any_cons, List.any_cons]
          have ih' := ih _ h2
          unfold inKeys at ih'
          rw [ih']
          congr 1
          by_cases hb : NestedKey.beq y k = true
          · rw [if_pos ⟨y, h1, hb⟩, hb]
          · rw [if_neg (fun ⟨z, hz, hbz⟩ => hb (by rw [NestedIs.inj y z u h1 hz]; exact hbz))]
            simpa using hb
theorem inD_ok {pins : List (Addr × Obj)} {σ : St} {s : Shared} (hu : X.A.units + 150 < cLine) (I : L2.Inv X pins σ H s) (W : XW X ρ S H) {x y : D} {vx vy : V} {ux uy : Value} {b : Bool} (h1 : VR X.K ρ H x vx) (h2 : VR X.K ρ H y vy) (r1 : RelV vx ux) (r2 : RelV vy uy)
    (e : inD S x y = some b) {Q : Value → Shared → Prop} {E : Value → Shared → Prop} : (Q (.bool b) s → wpAny (model X.prog X.w) X.A (compareOp .In ux uy) Q E s) ∧ (Q (.bool (!b)) s → wpAny (model X.prog X.w) X.A (compareOp .NotIn ux uy) Q E s) := by
  unfold inD at e
  cases e1 : seqD S y with
  | none =>
    rw [e1] at e
    cases e
  | some ds =>
    cases e2 : keyOf x with
    | none =>
      rw [e1, e2] at e
      cases e
    | some k =>
      simp only [e1, e2] at e
      cases e3 : keyOf.keysOf ds with
      | none =>
        rw [e3] at e
        cases e
      | some ks =>
        simp only [e3] at e
        split at e
        · cases e
          obtain ⟨a, vs, rfl, g1, g2⟩ := seqD_ok W h2 e1
          cases (show uy = Value.ref a from r2)
          have nx := nested_of I x k vx ux e2 h1 r1
          have hd : X.A.in1.units + k.depth < cLine := by
            show X.A.units + 1 + _ < _
            omega
          rcases g1 with g1 | g1
          · obtain ⟨its, rv, pl, hz⟩ := I.list g1
            obtain ⟨f, hf, hany⟩ := eqAt_mem nx hd ks its (nested_of.go I ds ks vs its e3 g2 rv)
            have ea : its.toArray.any f = inKeys k ks := by rw [← hany]; simp
            exact ⟨fun q => SeqAt.in_listAt f pl.isList (fun u hm => hf u (by simpa using hm)) (by rw [ea]; exact q), fun q => SeqAt.notIn_listAt f pl.isList (fun u hm => hf u (by simpa using hm)) (by rw [ea]; exact q)⟩
          · obtain ⟨its, rv, pl, hz⟩ := I.tuple g1
            obtain ⟨f, hf, hany⟩ := eqAt_mem nx hd ks its (nested_of.go I ds ks vs its e3 g2 rv)
            have ea : its.toArray.any f = inKeys k ks := by rw [← hany]; simp
            exact ⟨fun q => SeqAt.in_tupleAt f pl (fun u hm => hf u (by simpa using hm)) (by rw [ea]; exact q), fun q => SeqAt.notIn_tupleAt f pl (fun u hm => hf u (by simpa using hm)) (by rw [ea]; exact q)⟩
        · cases e
def dInQ : DOp := fun d1 d2 S R => ∃ b, inD S d1 d2 = some b ∧ R (.bl b) S
def dNotInQ : DOp := fun d1 d2 S R => ∃ b, inD S d1 d2 = some b ∧ R (.bl (!b)) S
theorem od_inQ (hu : X.A.units + 150 < cLine) : OpR X (compareOp .In) (rD X dInQ) := fun pins s σ H x y v u Q I rx ry ⟨ρ, S, d1, d2, R, W, r1, r2, ⟨b, e, q⟩, p⟩ =>
  (inD_ok hu I W r1 r2 rx ry e).1 ⟨.bl b, H, I, rfl, p _ _ q ρ H _ (Ext.refl _ _) W .bl⟩
theorem od_notInQ (hu : X.A.units + 150 < cLine) : OpR X (compareOp .NotIn) (rD X dNotInQ) := fun pins s σ H x y v u Q I rx ry ⟨ρ, S, d1, d2, R, W, r1, r2, ⟨b, e, q⟩, p⟩ =>
  (inD_ok hu I W r1 r2 rx ry e).2 ⟨.bl (!b), H, I, rfl, p _ _ q ρ H _ (Ext.refl _ _) W .bl⟩
/-- one sign in a text -/
def dInS : DOp := fun d1 d2 S R => ∃ (c : Nat) (z : Str), d1 = .str ⟨#[c]⟩ ∧ d2 = .str z ∧ R (.bl (decide (c ∈ z.cps.toList))) S
def dNotInS : DOp := fun d1 d2 S R => ∃ (c : Nat) (z : Str), d1 = .str ⟨#[c]⟩ ∧ d2 = .str z ∧ R (.bl (!decide (c ∈ z.cps.toList))) S
theorem od_inS : OpR X (compareOp .In) (rD X dInS) := OpR.imp op_in_sign fun x y H Q ⟨ρ, S, d1, d2, R, W, r1, r2, ⟨c, z, e1, e2, q⟩, p⟩ => by
  subst e1 e2
  exact ⟨c, z, r1.str_of, r2.str_of, p _ _ q ρ H _ (Ext.refl _ _) W .bl⟩
theorem od_notInS : OpR X (compareOp .NotIn) (rD X dNotInS) := OpR.imp op_notIn_sign fun x y H Q ⟨ρ, S, d1, d2, R, W, r1, r2, ⟨c, z, e1, e2, q⟩, p⟩ => by
  subst e1 e2
  exact ⟨c, z, r1.str_of, r2.str_of, p _ _ q ρ H _ (Ext.refl _ _) W .bl⟩
/-! ### is None -/
def isNonD : D → Bool
  | .non => true
  | _ => false
def dIsN : DOp := fun d1 d2 S R => d2 = .non ∧ R (.bl (isNonD d1)) S
def dIsNotN : DOp := fun d1 d2 S R => d2 = .non ∧ R (.bl (!isNonD d1)) S
theorem isN_ok {d : D} {v : V} (r : VR X.K ρ H d v) : decide (v = .non) = isNonD d := by
  cases d with
  | non => cases r.non_of; rfl
  | bl _ => cases r.bl_of; rfl
  | int _ => cases r.int_of; rfl
  | str _ => cases r.str_of; rfl
  | tup _ => obtain ⟨a, vs, rfl, _⟩ := r.tup_of; rfl
  | fls _ => obtain ⟨a, vs, rfl, _⟩ := r.fls_of; rfl
  | loc _ => obtain ⟨a, _, rfl⟩ := r.loc_of; rfl
theorem od_isN : OpR X (compareOp .Is) (rD X dIsN) := OpR.imp op_isN fun x y H Q ⟨ρ, S, d1, d2, R, W, r1, r2, ⟨e2, q⟩, p⟩ => by
  subst e2
  refine ⟨r2.non_of, p _ _ ?_ ρ H _ (Ext.refl _ _) W .bl⟩
  rw [isN_ok r1]
  exact q
theorem od_isNotN : OpR X (compareOp .IsNot) (rD X dIsNotN) := OpR.imp op_notN fun x y H Q ⟨ρ, S, d1, d2, R, W, r1, r2, ⟨e2, q⟩, p⟩ => by
  subst e2
  refine ⟨r2.non_of, p _ _ ?_ ρ H _ (Ext.refl _ _) W .bl⟩
  rw [isN_ok r1]
  exact q

/-! ### places and slices -/
def dIx : DOp := fun d1 d2 S R => ∃ i, d2 = .int i ∧ ((∃ ds d, seqD S d1 = some ds ∧ atI ds i = some d ∧ R d S) ∨ ∃ z c, d1 = .str z ∧ z.length ≤ sizeLine ∧ atI z.cps.toList i = some c ∧ R (.str ⟨#[c]⟩) S)
theorem VRs.at {K : PySem.W.Frag} {ds : List D} {vs : List V} {i : Int} {d : D} (h : VRs K ρ H ds vs) (e : atI ds i = some d) : ∃ v, atI vs i = some v ∧ VR K ρ H d v := by
  unfold atI at e ⊢
  rw [h.length]
  cases hj : ixN ds.length i with
  | none =>
    rw [hj] at e
    cases e
  | some j =>
    rw [hj] at e
    exact h.get e
theorem od_ix : IxR X (rD X dIx) := IxR.imp ix_seq fun x y H Q ⟨ρ, S, d1, d2, R, W, r1, r2, ⟨i, e2, h⟩, p⟩ => by
  subst e2
  cases r2.int_of
  rcases h with ⟨ds, d, e1, e3, q⟩ | ⟨z, c, e1, hz, e3, q⟩
  · obtain ⟨a, vs, rfl, g1, g2⟩ := seqD_ok W r1 e1
    obtain ⟨v, hv, rv⟩ := g2.at e3
    have fin := p _ _ q ρ H v (Ext.refl _ _) W rv
    rcases g1 with g1 | g1
    · exact .inl ⟨a, vs, i, v, rfl, rfl, g1, hv, fin⟩
    · exact .inr (.inl ⟨a, vs, i, v, rfl, rfl, g1, hv, fin⟩)
  · subst e1
    exact .inr (.inr ⟨z, i, c, r1.str_of, rfl, hz, e3, p _ _ q ρ H _ (Ext.refl _ _) W .str⟩)
/-- the cut of a list by the parts of a slice -/
def cutD (xs : List D) (lo hi : Option Int) : List D := (xs.drop (HT.sIx xs.length 0 lo)).take (HT.sIx xs.length xs.length hi - HT.sIx xs.length 0 lo)
theorem VRs.cut {K : PySem.W.Frag} {ds : List D} {vs : List V} (h : VRs K ρ H ds vs) (lo hi : Option Int) : VRs K ρ H (cutD ds lo hi) (cutV vs lo hi) := by
  unfold cutD
  rw [← h.length]
  exact (h.drop _).take _
def dSlL : DSl := fun d lo hi S R => ∃ p, lstD S d = some p ∧ R (.loc S.length) (S ++ [.lst (cutD p.1 lo hi)])
def dSlT : DSl := fun d lo hi S R => ∃ ds, d = .tup ds ∧ R (.tup (cutD ds lo hi)) S
def dSlS : DSl := fun d lo hi S R => ∃ z, d = .str z ∧ z.length ≤ sizeLine ∧ R (.str (cutS z lo hi)) S
theorem sd_list : SlR X (rSlD X dSlL) := SlR.imp sl_list fun x lo hi H Q ⟨ρ, S, d, R, W, r, ⟨pr, e, q⟩, p⟩ => by
  obtain ⟨a, vs, rfl, h1, h2, _⟩ := lstD_ok W r e
  exact ⟨a, vs, rfl, h1, fun c hc => new_lst W (h2.cut lo hi) q p hc⟩
theorem sd_tup : SlR X (rSlD X dSlT) := SlR.imp sl_tupA fun x lo hi H Q ⟨ρ, S, d, R, W, r, ⟨ds, e, q⟩, p⟩ => by
  subst e
  obtain ⟨a, vs, rfl, h1, h2⟩ := r.tup_of
  refine ⟨a, vs, rfl, h1.sq, fun ⟨w1, w2⟩ => ?_, fun _ c hc => new_tup W (h2.cut lo hi) q p hc⟩
  have e : cutD ds lo hi = ds := by
    unfold cutD
    rw [h2.length] at w1 w2
    rw [w1, w2]
    simp
  rw [e] at q
  exact p _ _ q ρ H _ (Ext.refl _ _) W (.tup h1 h2)
theorem sd_str : SlR X (rSlD X dSlS) := SlR.imp sl_str fun x lo hi H Q ⟨ρ, S, d, R, W, r, ⟨z, e, hz, q⟩, p⟩ => by
  subst e
  exact ⟨z, r.str_of, hz, p _ _ q ρ H _ (Ext.refl _ _) W .str⟩
def dSl : DSl := slOr dSlL (slOr dSlT dSlS)
theorem sd_any : SlR X (rSlD X dSl) := SlD.or sd_list (SlD.or sd_tup sd_str)

/-! ### built-ins -/
def lenD (S : Sto) : D → Option Nat
  | .str x => if x.length ≤ sizeLine then some x.length else none
  | d => (seqD S d).map List.length
def dLen : DCall := fun ds S R => ∃ d n, ds = [d] ∧ lenD S d = some n ∧ R (.int (n : Nat)) S
theorem cd_len : CallR X (.builtin "len") (rCD X dLen) := CallR.imp call_len fun xs H Q ⟨ρ, S, ds, R, W, r, ⟨d, n, e1, e2, q⟩, p⟩ => by
  subst e1
  obtain ⟨v, rfl, rv⟩ := r.one_of
  refine ⟨v, n, rfl, ?_, p _ _ q ρ H _ (Ext.refl _ _) W .int⟩
  have sq : ∀ ds, seqD S d = some ds → n = ds.length → LenV X.K v H n := fun ds e h => by
    obtain ⟨a, vs, rfl, g1, g2⟩ := seqD_ok W rv e
    rcases g1 with g1 | g1
    · exact .inl ⟨vs, g1, by rw [h, g2.length]⟩
    · exact .inr ⟨vs, g1, by rw [h, g2.length]⟩
  have other : ∀ (_ : lenD S d = (seqD S d).map List.length), LenV X.K v H n := fun h => by
    rw [h] at e2
    cases e3 : seqD S d with
    | none =>
      rw [e3] at e2
      cases e2
    | some ds =>
      rw [e3] at e2
      cases e2
      exact sq ds e3 rfl
  cases d with
  | str x =>
    cases rv.str_of
    have e' : (if x.length ≤ sizeLine then some x.length else none) = some n := e2
    by_cases hz : x.length ≤ sizeLine
    · rw [if_pos hz] at e'
      exact ⟨hz, (Option.some.inj e').symm⟩
    · rw [if_neg hz] at e'
      cases e'
  | tup ds => exact other rfl
  | fls ds => exact other rfl
  | loc l => exact other rfl
  | non => exact other rfl
  | bl _ => exact other rfl
  | int _ => exact other rfl
def dList : DCall := fun ds S R => ∃ d xs, ds = [d] ∧ seqD S d = some xs ∧ R (.loc S.length) (S ++ [.lst xs])
theorem cd_list : CallR X (.type "list") (rCD X dList) := CallR.imp call_list_of fun xs H Q ⟨ρ, S, ds, R, W, r, ⟨d, ys, e1, e2, q⟩, p⟩ => by
  subst e1
  obtain ⟨v, rfl, rv⟩ := r.one_of
  obtain ⟨a, vs, rfl, g1, g2⟩ := seqD_ok W rv e2
  exact ⟨a, vs, rfl, g1, fun c hc => new_lst W g2 q p hc⟩
def dTuple : DCall := fun ds S R => ∃ d xs, ds = [d] ∧ seqD S d = some xs ∧ R (.tup xs) S
theorem cd_tuple : CallR X (.type "tuple") (rCD X dTuple) := CallR.imp call_tuple_of fun xs H Q ⟨ρ, S, ds, R, W, r, ⟨d, ys, e1, e2, q⟩, p⟩ => by
  subst e1
  obtain ⟨v, rfl, rv⟩ := r.one_of
  have lst : ∀ pr : List D × (Sto → Prop), lstD S d = some pr → pr.1 = ys → ∃ a us, [v] = [V.ref a] ∧ ((SqL X.K H a us ∧ ∀ l, H l = none → Q (.ref l) (upd H l (.tup us))) ∨ (SqT X.K H a us ∧ Q (.ref a) H)) := fun pr e h => by
    obtain ⟨a, vs, rfl, g1, g2, _⟩ := lstD_ok W rv e
    subst h
    exact ⟨a, vs, rfl, .inl ⟨g1, fun c hc => new_tup W g2 q p hc⟩⟩
  cases d with
  | tup zs =>
    obtain ⟨a, vs, rfl, h2, h3⟩ := rv.tup_of
    have e' : some zs = some ys := e2
    cases e'
    exact ⟨a, vs, rfl, .inr ⟨h2.sq, p _ _ q ρ H _ (Ext.refl _ _) W (.tup h2 h3)⟩⟩
  | fls zs =>
    have e' : some zs = some ys := e2
    cases e'
    exact lst _ rfl rfl
  | loc l =>
    simp only [seqD] at e2
    split at e2
    · rename_i zs h3
      cases e2
      exact lst (ys, fun S' => S'[l]? = some (.lst ys)) (by simp only [lstD, h3]) rfl
    · cases e2
  | non => cases e2
  | bl _ => cases e2
  | int _ => cases e2
  | str _ => cases e2
def dMax2 : DCall := fun ds S R => ∃ i j, ds = [.int i, .int j] ∧ R (.int (if j > i then j else i)) S
def dMin2 : DCall := fun ds S R => ∃ i j, ds = [.int i, .int j] ∧ R (.int (if j < i then j else i)) S
theorem cd_max2 (hc : X.calm = true) : CallR X (.builtin "max") (rCD X dMax2) := CallR.imp (call_max2 hc) fun xs H Q ⟨ρ, S, ds, R, W, r, ⟨i, j, e1, q⟩, p⟩ => by
  subst e1
  obtain ⟨v, u, rfl, r1, r2⟩ := r.two_of
  cases r1.int_of
  cases r2.int_of
  exact ⟨i, j, rfl, p _ _ q ρ H _ (Ext.refl _ _) W .int⟩
theorem cd_min2 (hc : X.calm = true) : CallR X (.builtin "min") (rCD X dMin2) := CallR.imp (call_min2 hc) fun xs H Q ⟨ρ, S, ds, R, W, r, ⟨i, j, e1, q⟩, p⟩ => by
  subst e1
  obtain ⟨v, u, rfl, r1, r2⟩ := r.two_of
  cases r1.int_of
  cases r2.int_of
  exact ⟨i, j, rfl, p _ _ q ρ H _ (Ext.refl _ _) W .int⟩
/-- the truths of a list -/
def blsD : List D → Option (List Bool)
  | [] => some []
  | .bl b :: r => (blsD r).map (b :: ·)
  | _ :: _ => none
theorem blsD_ok : ∀ {ds : List D} {bs : List Bool} {vs : List V}, blsD ds = some bs → VRs X.K ρ H ds vs → vs = bs.map V.bl
  | [], bs, vs, e, h => by
    cases h.nil_of
    have e' : some [] = some bs := e
    cases e'
    rfl
  | d :: ds, bs, vs, e, h => by
    unfold VRs at h
    obtain ⟨v, vr, rfl, h1, h2⟩ := h
    cases d with
    | bl b =>
      have e' : (blsD ds).map (b :: ·) = some bs := e
      cases e1 : blsD ds with
      | none =>
        rw [e1] at e'
        cases e'
      | some bs' =>
        rw [e1] at e'
        cases e'
        rw [blsD_ok e1 h2, h1.bl_of]
        rfl
    | non => cases e
    | int _ => cases e
    | str _ => cases e
    | tup _ => cases e
    | fls _ => cases e
    | loc _ => cases e
def dAll : DCall := fun ds S R => ∃ d p bs, ds = [d] ∧ lstD S d = some p ∧ blsD p.1 = some bs ∧ R (.bl (bs.all id)) S
def dAny : DCall := fun ds S R => ∃ d p bs, ds = [d] ∧ lstD S d = some p ∧ blsD p.1 = some bs ∧ R (.bl (bs.any id)) S
theorem cd_all (hc : X.calm = true) : CallR X (.builtin "all") (rCD X dAll) := CallR.imp (cr_all hc) fun xs H Q ⟨ρ, S, ds, R, W, r, ⟨d, pr, bs, e1, e2, e3, q⟩, p⟩ => by
  subst e1
  obtain ⟨v, rfl, rv⟩ := r.one_of
  obtain ⟨a, vs, rfl, g1, g2, _⟩ := lstD_ok W rv e2
  exact ⟨a, bs, rfl, by rw [← blsD_ok e3 g2]; exact g1, p _ _ q ρ H _ (Ext.refl _ _) W .bl⟩
theorem cd_any (hc : X.calm = true) : CallR X (.builtin "any") (rCD X dAny) := CallR.imp (cr_any hc) fun xs H Q ⟨ρ, S, ds, R, W, r, ⟨d, pr, bs, e1, e2, e3, q⟩, p⟩ => by
  subst e1
  obtain ⟨v, rfl, rv⟩ := r.one_of
  obtain ⟨a, vs, rfl, g1, g2, _⟩ := lstD_ok W rv e2
  exact ⟨a, bs, rfl, by rw [← blsD_ok e3 g2]; exact g1, p _ _ q ρ H _ (Ext.refl _ _) W .bl⟩

/-! ### isinstance of a built-in type -/
def typD (S : Sto) : D → Option String
  | .non => some "NoneType"
  | .bl _ => some "bool"
  | .int _ => some "int"
  | .str _ => some "str"
  | .tup _ => some "tuple"
  | .fls _ => some "list"
  | .loc l => match S[l]? with
    | some (.lst _) => some "list"
    | some (.dct _) => some "dict"
    | _ => none
def wIsi (T : String) (we : WE) : WE := fun τ S R => we τ S fun d S1 => ∃ t b, typD S1 d = some t ∧ kitB t T = some b ∧ R (.bl b) S1
/-- what the library's isinstance rules ask -/
theorem kitD {pins : List (Addr × Obj)} {σ : St} {s : Shared} {d : D} {v : V} {u : Value} {t : String} (I : L2.Inv X pins σ H s) (W : XW X ρ S H) (h : VR X.K ρ H d v) (r : RelV v u) (e : typD S d = some t) :
    ∃ P : Heap → Prop, PySem.W.KitX X.K u (.type t) P ∧ P s.heap ∧ u ≠ .builtin "__main__.__loader__#opaque" := by
  cases d with
  | non =>
    cases h.non_of
    have e' : some "NoneType" = some t := e
    cases e'
    exact kit_of I r (.base .non)
  | bl b =>
    cases h.bl_of
    have e' : some "bool" = some t := e
    cases e'
    exact kit_of I r (.base (.bl b))
  | int i =>
    cases h.int_of
    have e' : some "int" = some t := e
    cases e'
    exact kit_of I r (.base (.int i))
  | str x =>
    cases h.str_of
    have e' : some "str" = some t := e
    cases e'
    exact kit_of I r (.base (.str x))
  | tup ds =>
    obtain ⟨a, vs, rfl, h1, h2⟩ := h.tup_of
    have e' : some "tuple" = some t := e
    cases e'
    cases (show u = Value.ref a from r)
    obtain ⟨its, rv, ⟨o, ho, hc, _⟩, _⟩ := I.tuple h1.sq
    exact ⟨_, PySem.W.kitx_tuple, ⟨o, ho, hc⟩, fun z => nomatch z⟩
  | fls ds =>
    obtain ⟨a, vs, rfl, h1, h2⟩ := h.fls_of
    have e' : some "list" = some t := e
    cases e'
    cases (show u = Value.ref a from r)
    obtain ⟨its, rv, pl, _⟩ := I.list h1.sq
    obtain ⟨o, ho, hc, _⟩ := pl.isList
    exact ⟨_, PySem.W.kitx_list, ⟨o, ho, hc⟩, fun z => nomatch z⟩
  | loc l =>
    obtain ⟨a, h1, rfl⟩ := h.loc_of
    cases (show u = Value.ref a from r)
    simp only [typD] at e
    split at e
    · rename_i xs h3
      cases e
      obtain ⟨vs, h4, h5⟩ := W.obj l a _ h1 h3
      exact kit_of I r (.base (.lst h4))
    · rename_i kvs h3
      cases e
      obtain ⟨_, _, _, es, h4, _⟩ := W.obj l a _ h1 h3
      obtain ⟨⟨o, ep, ho, hx, _⟩, _⟩ := I.hok a _ h4
      exact ⟨_, PySem.W.kitx_dict, ⟨o, ho, hx.1⟩, fun z => nomatch z⟩
    · cases e
theorem de_isi {e : Expr} {we : WE} {x : Str} {n : String} {p p2 pos : Pos} (hm : X.mg "isinstance" = none) (hg : Gl X "isinstance") (hmT : X.mg x = none) (hgT : Gl X x) (hvT : bootBuiltins x = some (.type n)) (he : PE X e (dE X we)) (hn : x ≠ "__name__" := by decide) (hdb : (x == ("__debug__" : Str)) = false := by decide)
    (hs : starEach (e :: [Expr.Name x p2]) X.env = (false, eval e X.env) :: starEach [Expr.Name x p2] X.env := by rfl) (hpl : (backTo pos (starEach [Expr.Name x p2] X.env)).any (·.1) = false := by rfl) (hs2 : starEach [Expr.Name x p2] X.env = (false, eval (Expr.Name x p2) X.env) :: starEach [] X.env := by rfl) :
    PE X (.Call (.Name "isinstance" p) [e, .Name x p2] [] pos) (dE X (wIsi n we)) := by
  have rule : CallR X (.builtin "isinstance") (fun xs H Q => ∃ v, xs = [v, .ty n] ∧ ∃ ρ S d t b, XW X ρ S H ∧ VR X.K ρ H d v ∧ typD S d = some t ∧ kitB t n = some b ∧ Q (.bl b) H) := by
    intro pins s σ H xs us Q I r ⟨v, e1, ρ, S, d, t, b, W, rv, et, eb, q⟩
    subst e1
    obtain ⟨u1, u2, rfl, r1, r2⟩ := vals2 r
    cases (show u2 = Value.type n from r2)
    obtain ⟨P, Z, hp, hx⟩ := kitD I W rv r1 et
    exact PySem.W.kia_one Z I.kIn hp (kit_ty eb) hx fun tk => ⟨.bl b, H, I.tok tk, rfl, q⟩
  refine PE.imp (pe_callB rule hg hm (by decide +kernel) (pa_cons he (pa_cons (pe_bltn (v := .ty n) hgT hmT hvT rfl hn hdb) pa_nil hs2) hs) (by decide) (by decide) hs hpl) fun σ H Q ⟨ρ, τ, S, R, W, er, h, p⟩ => ?_
  exact ⟨ρ, τ, S, _, W, er, h, fun d S1 ⟨t, b, et, eb, q⟩ ρ1 H1 v x1 W1 r1 => ⟨v, rfl, ρ1, S1, d, t, b, W1, r1, et, eb, p _ _ q ρ1 H1 _ x1 W1 .bl⟩⟩
end
end Dl

namespace Dl
open PySem L2 PyProof.Rows PySem.Spec

/-! ### stores into lists, the methods of lists and texts -/
def dSetL : DSet := fun d1 d2 d3 S R => ∃ l xs i j, d1 = .loc l ∧ d2 = .int i ∧ S[l]? = some (.lst xs) ∧ ixN xs.length i = some j ∧ R (S.set l (.lst (xs.set j d3)))
section
variable {X : Cx} {ρ : List Addr} {S : Sto} {H : Hp}
/-- a list of the store is rewritten -/
theorem write_lst {l : Nat} {a : Addr} {xs ys : List D} {vs us : List V} (W : XW X ρ S H) (h1 : ρ[l]? = some a) (h2 : H a = some (.lst vs)) (r : VRs X.K ρ H ys us) :
    Ext ρ H ρ (upd H a (.lst us)) ∧ XW X ρ (S.set l (.lst ys)) (upd H a (.lst us)) := by
  have vx : VX ρ H ρ (upd H a (.lst us)) := vx_upd h2 (fun vs q => by cases q) (fun x y q => by cases q)
  exact ⟨ext_write (List.mem_of_getElem? h1), W.write h1 ⟨us, upd_same, VRs.vx vx _ _ r⟩⟩
theorem sd_setL : PSet X (rSetD X dSetL) := PSet.imp set_list fun o i v H Q ⟨ρ, S, d1, d2, d3, R, W, r1, r2, r3, ⟨l, xs, k, j, e1, e2, g, hj, q⟩, p⟩ => by
  subst e1 e2
  obtain ⟨a, h1, rfl⟩ := r1.loc_of
  obtain ⟨vs, h3, h4⟩ := W.obj l a _ h1 g
  obtain ⟨x1, W1⟩ := write_lst (xs := xs) W h1 h3 (VRs.set r3 j h4)
  exact ⟨a, vs, k, j, rfl, r2.int_of, h3, by rw [h4.length]; exact hj, p _ q ρ _ x1 W1⟩

/-! ### methods -/
abbrev DMt := D → List D → Sto → DQ → Prop
def rMD (X : Cx) (op : DMt) : V → List V → Hp → VK → Prop := fun x xs H Q => ∃ ρ S d ds R, XW X ρ S H ∧ VR X.K ρ H d x ∧ VRs X.K ρ H ds xs ∧ op d ds S R ∧ PassE X ρ H R Q
theorem MtR.imp {id : String} {r r' : V → List V → Hp → VK → Prop} (h : MtR X id r) (k : ∀ x xs H Q, r' x xs H Q → r x xs H Q) : MtR X id r' := fun pins s σ H x xs v us Q I rx rs q => h pins s σ H x xs v us Q I rx rs (k x xs H Q q)
theorem MtD.or {id : String} {o o' : DMt} (h : MtR X id (rMD X o)) (h' : MtR X id (rMD X o')) : MtR X id (rMD X fun d ds S R => o d ds S R ∨ o' d ds S R) :=
  MtR.imp (MtR.or h h') fun x xs H Q ⟨ρ, S, d, ds, R, W, r1, r2, q, p⟩ => q.imp (fun q => ⟨ρ, S, d, ds, R, W, r1, r2, q, p⟩) fun q => ⟨ρ, S, d, ds, R, W, r1, r2, q, p⟩
/-- the values of a built-in type -/
def tyD (S : Sto) (T : String) : D → Prop
  | .str _ => T = "str"
  | .loc l => ∃ xs, T = "list" ∧ S[l]? = some (.lst xs)
  | _ => False
theorem tyD_ok {T : String} {d : D} {v : V} (W : XW X ρ S H) (r : VR X.K ρ H d v) (h : tyD S T d) : tyV X.K T v H := by
  cases d with
  | str x =>
    cases r.str_of
    exact h
  | loc l =>
    obtain ⟨a, h1, rfl⟩ := r.loc_of
    obtain ⟨xs, rfl, h2⟩ := h
    obtain ⟨vs, h3, h4⟩ := W.obj l a _ h1 h2
    exact .inl ⟨rfl, vs, SqL.of h3⟩
  | non => exact h.elim
  | bl _ => exact h.elim
  | int _ => exact h.elim
  | tup _ => exact h.elim
  | fls _ => exact h.elim
def wMt0 (T : String) (o : DMt) (we : WE) : WE := fun τ S R => we τ S fun d S1 => tyD S1 T d ∧ o d [] S1 R
def wMt (T : String) (o : DMt) (we : WE) (wr : WA) : WE := fun τ S R => we τ S fun d S1 => tyD S1 T d ∧ wr τ S1 fun ds S2 => o d ds S2 R
variable {o e : Expr} {es : List Expr} {we : WE} {wr : WA} {name : Str} {apos cpos : Pos} {T id : String} {op : DMt}
theorem de_mt0 (pa : PlainAttrs T) (slot : Slot T name id) (hty : typeOf (.builtin id) = pure (.type "method_descriptor")) (hm : MtR X id (rMD X op)) (ho : PE X o (dE X we))
    (hbase : attributeBase o name X.env (eval o X.env) = eval o X.env := by rfl) (hline : (apos.endLine == cpos.line) = true := by rfl) : PE X (.Call (.Attribute o name apos) [] [] cpos) (dE X (wMt0 T op we)) :=
  PE.imp (pe_bm0 pa slot hty hm ho hbase hline) fun σ H Q ⟨ρ, τ, S, R, W, er, h, p⟩ => ⟨ρ, τ, S, _, W, er, h, fun d S1 ⟨ty, h1⟩ ρ1 H1 v x1 W1 r => ⟨tyD_ok W1 r ty, ρ1, S1, d, [], R, W1, r, .nil, h1, p.ext W1 x1⟩⟩
theorem de_mt (pa : PlainAttrs T) (slot : Slot T name id) (hty : typeOf (.builtin id) = pure (.type "method_descriptor")) (hm : MtR X id (rMD X op)) (ho : PE X o (dE X we)) (ha : PA X (e :: es) (dA X wr))
    (hbase : attributeBase o name X.env (eval o X.env) = eval o X.env := by rfl)
    (hfew : ((backTo cpos (starEach (e :: es) X.env)).all (fun x => !x.1) && (backToKw cpos (keywordEach [] X.env)).all (fun x => x.1.isSome)
      && decide ((e :: es).length + ([] : List Keyword).length + (if ([] : List Keyword).isEmpty then 0 else 1) < 30)) = true := by rfl)
    (hline : (apos.endLine == cpos.line) = true := by rfl) (hs : starEach (e :: es) X.env = (false, eval e X.env) :: starEach es X.env := by rfl) (hplain : (backTo cpos (starEach es X.env)).any (·.1) = false := by rfl) :
    PE X (.Call (.Attribute o name apos) (e :: es) [] cpos) (dE X (wMt T op we wr)) :=
  PE.imp (pe_bm pa slot hty hm ho ha hbase hfew hline hs hplain) fun σ H Q ⟨ρ, τ, S, R, W, er, h, p⟩ => ⟨ρ, τ, S, _, W, er, h, fun d S1 ⟨ty, h1⟩ ρ1 H1 v x1 W1 r => ⟨tyD_ok W1 r ty,
    ⟨ρ1, τ, S1, _, W1, er.ext W.sep x1, h1, fun ds S2 h2 ρ2 H2 vs x2 W2 r2 => ⟨ρ2, S2, d, ds, R, W2, r.ext W1.sep x2, r2, h2, (p.ext W1 x1).ext W2 x2⟩⟩⟩⟩

def dAppend : DMt := fun d ds S R => ∃ l xs y, d = .loc l ∧ ds = [y] ∧ S[l]? = some (.lst xs) ∧ xs.length < sizeLine ∧ R .non (S.set l (.lst (xs ++ [y])))
theorem md_append : MtR X "list.append" (rMD X dAppend) := MtR.imp mt_append fun x us H Q ⟨ρ, S, d, ds, R, W, r1, r2, ⟨l, xs, y, e1, e2, g, hz, q⟩, p⟩ => by
  subst e1 e2
  obtain ⟨a, h1, rfl⟩ := r1.loc_of
  obtain ⟨v, rfl, rv⟩ := r2.one_of
  obtain ⟨vs, h3, h4⟩ := W.obj l a _ h1 g
  obtain ⟨x1, W1⟩ := write_lst (xs := xs) W h1 h3 (h4.snoc rv)
  exact ⟨a, vs, v, rfl, rfl, h3, by rw [h4.length]; exact hz, p _ _ q ρ _ _ x1 W1 .non⟩
def dExtend : DMt := fun d ds S R => ∃ l m xs ys, d = .loc l ∧ ds = [.loc m] ∧ S[l]? = some (.lst xs) ∧ S[m]? = some (.lst ys) ∧ xs.length + ys.length ≤ sizeLine ∧ R .non (S.set l (.lst (xs ++ ys)))
theorem md_extend : MtR X "list.extend" (rMD X dExtend) := MtR.imp mt_extend fun x us H Q ⟨ρ, S, d, ds, R, W, r1, r2, ⟨l, m, xs, ys, e1, e2, g, g2, hz, q⟩, p⟩ => by
  subst e1 e2
  obtain ⟨a, h1, rfl⟩ := r1.loc_of
  obtain ⟨v, rfl, rv⟩ := r2.one_of
  obtain ⟨b, h2, rfl⟩ := rv.loc_of
  obtain ⟨vs, h3, h4⟩ := W.obj l a _ h1 g
  obtain ⟨ws, h5, h6⟩ := W.obj m b _ h2 g2
  obtain ⟨x1, W1⟩ := write_lst (xs := xs) W h1 h3 (h4.append h6)
  exact ⟨a, b, vs, ws, rfl, rfl, h3, h5, by rw [h4.length, h6.length]; exact hz, p _ _ q ρ _ _ x1 W1 .non⟩
theorem VRs.dropLast {K : PySem.W.Frag} {ds : List D} {vs : List V} (h : VRs K ρ H ds vs) : VRs K ρ H ds.dropLast vs.dropLast := by
  rw [List.dropLast_eq_take, List.dropLast_eq_take, h.length]
  exact h.take _
theorem VRs.eraseIdx {K : PySem.W.Frag} : ∀ {ds : List D} {vs : List V} (i : Nat), VRs K ρ H ds vs → VRs K ρ H (ds.eraseIdx i) (vs.eraseIdx i)
  | [], vs, i, h => by
    cases h.nil_of
    exact .nil
  | d :: ds, vs, i, h => by
    unfold VRs at h
    obtain ⟨v, vr, rfl, h2, h3⟩ := h
    cases i with
    | zero => exact h3
    | succ i => exact .cons h2 (VRs.eraseIdx i h3)
def dPop : DMt := fun d ds S R => ∃ l xs y, d = .loc l ∧ ds = [] ∧ S[l]? = some (.lst xs) ∧ xs[xs.length - 1]? = some y ∧ R y (S.set l (.lst xs.dropLast))
theorem md_pop : MtR X "list.pop" (rMD X dPop) := MtR.imp mt_pop fun x us H Q ⟨ρ, S, d, ds, R, W, r1, r2, ⟨l, xs, y, e1, e2, g, hy, q⟩, p⟩ => by
  subst e1 e2
  obtain ⟨a, h1, rfl⟩ := r1.loc_of
  cases r2.nil_of
  obtain ⟨vs, h3, h4⟩ := W.obj l a _ h1 g
  obtain ⟨x1, W1⟩ := write_lst (xs := xs) W h1 h3 h4.dropLast
  obtain ⟨v, hv, rv⟩ := h4.get hy
  exact ⟨a, vs, v, rfl, rfl, h3, by rw [h4.length]; exact hv, p _ _ q ρ _ _ x1 W1 (rv.ext W.sep x1)⟩
def dPopAt : DMt := fun d ds S R => ∃ l xs i k y, d = .loc l ∧ ds = [.int i] ∧ S[l]? = some (.lst xs) ∧ -(2 ^ 63) ≤ i ∧ i < 2 ^ 63 ∧ seqIndex? i xs.length = some k ∧ xs[k]? = some y ∧ R y (S.set l (.lst (xs.eraseIdx k)))
theorem md_popAt : MtR X "list.pop" (rMD X dPopAt) := MtR.imp mt_popAt fun x us H Q ⟨ρ, S, d, ds, R, W, r1, r2, ⟨l, xs, i, k, y, e1, e2, g, b1, b2, hk, hy, q⟩, p⟩ => by
  subst e1 e2
  obtain ⟨a, h1, rfl⟩ := r1.loc_of
  obtain ⟨u, rfl, ru⟩ := r2.one_of
  cases ru.int_of
  obtain ⟨vs, h3, h4⟩ := W.obj l a _ h1 g
  obtain ⟨x1, W1⟩ := write_lst (xs := xs) W h1 h3 (h4.eraseIdx k)
  obtain ⟨v, hv, rv⟩ := h4.get hy
  exact ⟨a, vs, i, k, v, rfl, rfl, h3, b1, b2, by rw [h4.length]; exact hk, hv, p _ _ q ρ _ _ x1 W1 (rv.ext W.sep x1)⟩
theorem VRs.reverse {K : PySem.W.Frag} : ∀ {ds : List D} {vs : List V}, VRs K ρ H ds vs → VRs K ρ H ds.reverse vs.reverse
  | [], vs, h => by
    cases h.nil_of
    exact .nil
  | d :: ds, vs, h => by
    unfold VRs at h
    obtain ⟨v, vr, rfl, h2, h3⟩ := h
    rw [List.reverse_cons, List.reverse_cons]
    exact (VRs.reverse h3).snoc h2
def dReverse : DMt := fun d ds S R => ∃ l xs, d = .loc l ∧ ds = [] ∧ S[l]? = some (.lst xs) ∧ R .non (S.set l (.lst xs.reverse))
theorem md_reverse : MtR X "list.reverse" (rMD X dReverse) := MtR.imp mt_reverse fun x us H Q ⟨ρ, S, d, ds, R, W, r1, r2, ⟨l, xs, e1, e2, g, q⟩, p⟩ => by
  subst e1 e2
  obtain ⟨a, h1, rfl⟩ := r1.loc_of
  cases r2.nil_of
  obtain ⟨vs, h3, h4⟩ := W.obj l a _ h1 g
  obtain ⟨x1, W1⟩ := write_lst (xs := xs) W h1 h3 h4.reverse
  exact ⟨a, vs, rfl, rfl, h3, p _ _ q ρ _ _ x1 W1 .non⟩
def dClear : DMt := fun d ds S R => ∃ l xs, d = .loc l ∧ ds = [] ∧ S[l]? = some (.lst xs) ∧ R .non (S.set l (.lst []))
theorem md_clear : MtR X "list.clear" (rMD X dClear) := MtR.imp mt_clear fun x us H Q ⟨ρ, S, d, ds, R, W, r1, r2, ⟨l, xs, e1, e2, g, q⟩, p⟩ => by
  subst e1 e2
  obtain ⟨a, h1, rfl⟩ := r1.loc_of
  cases r2.nil_of
  obtain ⟨vs, h3, h4⟩ := W.obj l a _ h1 g
  obtain ⟨x1, W1⟩ := write_lst (xs := xs) W h1 h3 .nil
  exact ⟨a, vs, rfl, rfl, h3, p _ _ q ρ _ _ x1 W1 .non⟩
/-- sep.join(xs) -/
def strsD : List D → Option (List Str)
  | [] => some []
  | .str x :: r => (strsD r).map (x :: ·)
  | _ :: _ => none
theorem strsD_ok : ∀ {ds : List D} {ys : List Str} {vs : List V}, strsD ds = some ys → VRs X.K ρ H ds vs → vs = ys.map V.str
  | [], ys, vs, e, h => by
    cases h.nil_of
    have e' : some [] = some ys := e
    cases e'
    rfl
  | d :: ds, ys, vs, e, h => by
    unfold VRs at h
    obtain ⟨v, vr, rfl, h1, h2⟩ := h
    cases d with
    | str x =>
      have e' : (strsD ds).map (x :: ·) = some ys := e
      cases e1 : strsD ds with
      | none =>
        rw [e1] at e'
        cases e'
      | some ys' =>
        rw [e1] at e'
        cases e'
        rw [strsD_ok e1 h2, h1.str_of]
        rfl
    | non => cases e
    | int _ => cases e
    | bl _ => cases e
    | tup _ => cases e
    | fls _ => cases e
    | loc _ => cases e
def dJoin : DMt := fun d ds S R => ∃ a e xs ys, d = .str a ∧ ds = [e] ∧ seqD S e = some xs ∧ strsD xs = some ys ∧ (ys.map (·.length)).sum + ys.length * a.length ≤ 16777216 ∧ R (.str (Txt.join a ys)) S
theorem md_join : MtR X "str.join" (rMD X dJoin) := MtR.imp mt_join fun x us H Q ⟨ρ, S, d, ds, R, W, r1, r2, ⟨a, e, xs, ys, e1, e2, g, g2, hz, q⟩, p⟩ => by
  subst e1 e2
  obtain ⟨v, rfl, rv⟩ := r2.one_of
  obtain ⟨b, vs, rfl, h1, h2⟩ := seqD_ok W rv g
  refine ⟨a, b, ys, r1.str_of, rfl, ?_, hz, p _ _ q ρ H _ (Ext.refl _ _) W .str⟩
  rw [← strsD_ok g2 h2]
  exact h1
/-- a text times a number -/
def repS (x : Str) (n : Nat) : Str := ⟨((List.replicate n x.cps.toList).flatten).toArray⟩
theorem foldl_app (x : Array Nat) : ∀ (n : Nat) (acc : Array Nat), (List.replicate n x).foldl (· ++ ·) acc = acc ++ ((List.replicate n x.toList).flatten).toArray
  | 0, acc => by simp
  | n + 1, acc => by
    rw [List.replicate_succ, List.foldl_cons, foldl_app x n, List.replicate_succ, List.flatten_cons]
    apply Array.ext'
    simp
def dMulS : DOp := fun d1 d2 S R => ∃ x n, d1 = .str x ∧ d2 = .int n ∧ 0 ≤ n ∧ n < 2 ^ 62 ∧ x.length * n.toNat ≤ sizeLine ∧ R (.str (repS x n.toNat)) S
theorem op_mulS : OpR X (binaryOp .Mult) (fun x y H Q => ∃ z n, x = .str z ∧ y = .int n ∧ 0 ≤ n ∧ n < 2 ^ 62 ∧ z.length * n.toNat ≤ sizeLine ∧ Q (.str (repS z n.toNat)) H) := by
  intro pins s σ H x y v u Q I rx ry ⟨z, n, e1, e2, h0, h1, hz, q⟩
  subst e1 e2
  obtain ⟨t, rfl⟩ := rx
  obtain ⟨t', rfl⟩ := ry
  have hsl := sizeLine_eq
  refine PySem.P.mul_str ?_ (fun _ _ => ?_) (fun _ _ => ?_) ?_
  · rw [decide_eq_false (by omega), decide_eq_false (by omega)]
    rfl
  · rename_i h2 h3
    intro h4
    have hn : 1 ≤ n := by omega
    have h5 : (z.length : Int) * n ≤ 16777216 := by
      have : (((z.length * n.toNat : Nat)) : Int) ≤ ((sizeLine : Nat) : Int) := Int.ofNat_le.mpr hz
      rw [Int.natCast_mul, Int.toNat_of_nonneg h0, hsl] at this
      exact this
    have h6 : (2 ^ 63 - 1 : Int) < (z.length : Int) * n := (Int.ediv_lt_iff_lt_mul (by omega)).mp h4
    omega
  · unfold PySem.Builtin.Str.tooLong
    exact decide_eq_false (by omega)
  · by_cases h2 : n < 1
    · rw [if_pos h2]
      have e : n = 0 := by omega
      subst e
      exact ⟨by decide, .str _, H, I.tok _, ⟨_, rfl⟩, q⟩
    · rw [if_neg h2]
      by_cases h3 : (n == 1 || z.length == 0) = true
      · rw [if_pos h3]
        have e : repS z n.toNat = z := by
          unfold repS
          rcases Bool.or_eq_true_iff.mp h3 with h4 | h4
          · have : n = 1 := by simpa using h4
            subst this
            simp [List.replicate]
          · have h5 : z.cps = #[] := by
              have : z.cps.size = 0 := by simpa [Str.length] using h4
              exact Array.eq_empty_of_size_eq_zero this
            obtain ⟨c⟩ := z
            simp only at h5
            subst h5
            simp
        rw [e] at q
        exact ⟨.str _, H, I, ⟨_, rfl⟩, q⟩
      · rw [if_neg h3]
        have e : (⟨(List.replicate n.toNat z.cps).foldl (· ++ ·) #[]⟩ : Str) = repS z n.toNat := by
          unfold repS
          rw [foldl_app]
          simp
        rw [e]
        refine ⟨?_, .str _, H, I.tok _, ⟨_, rfl⟩, q⟩
        have : (repS z n.toNat).length = z.length * n.toNat := by
          simp [repS, Str.length, Nat.mul_comm]
        omega
theorem od_mulS : OpR X (binaryOp .Mult) (rD X dMulS) := OpR.imp op_mulS fun x y H Q ⟨ρ, S, d1, d2, R, W, r1, r2, ⟨z, n, e1, e2, b1, b2, hz, q⟩, p⟩ => by
  subst e1 e2
  exact ⟨z, n, r1.str_of, r2.int_of, b1, b2, hz, p _ _ q ρ H _ (Ext.refl _ _) W .str⟩
def dMul : DOp := opOr dMulI (opOr dMulS dMulL)
theorem od_mul : OpR X (binaryOp .Mult) (rD X dMul) := OpD.or od_mulI (OpD.or od_mulS od_mulL)
/-- -x -/
def wNeg (we : WE) : WE := fun τ S R => we τ S fun d S1 => ∃ i, d = .int i ∧ R (.int (-i)) S1
theorem de_neg {pos : Pos} (he : PE X e (dE X we)) : PE X (.UnaryOp .USub e pos) (dE X (wNeg we)) := PE.imp (pe_un un_neg he) fun σ H Q ⟨ρ, τ, S, R, W, er, h, p⟩ => ⟨ρ, τ, S, _, W, er, h, fun d S1 ⟨i, e1, q⟩ ρ1 H1 v x1 W1 r => by
  subst e1
  exact ⟨i, r.int_of, p _ _ q ρ1 H1 _ x1 W1 .int⟩⟩
end

/-! ### in-place operators, chains as tests, targets of comprehensions -/
section
variable {X : Cx}
theorem oi_addI : OpR X (inplaceOp .Add) (rD X dAddI) := opD_int0 iop_add fun _ _ _ _ => .int
theorem oi_sub : OpR X (inplaceOp .Sub) (rD X dSub) := opD_int0 iop_sub fun _ _ _ _ => .int
theorem oi_addS : OpR X (inplaceOp .Add) (rD X dAddS) := OpR.imp iop_add_str fun x y H Q ⟨ρ, S, d1, d2, R, W, r1, r2, ⟨i, j, e1, e2, hz, q⟩, p⟩ => by
  subst e1 e2
  exact ⟨i, j, r1.str_of, r2.str_of, hz, p _ _ q ρ H _ (Ext.refl _ _) W .str⟩
def dIAdd : DOp := opOr dAddI dAddS
theorem oi_add : OpR X (inplaceOp .Add) (rD X dIAdd) := OpD.or oi_addI oi_addS
variable {a b c : Expr} {wa wb wc : WE} {pos : Pos}
theorem dt_chain {op op' : CmpOp} {o o' : DOp} (ho : OpR X (compareOp op) (rD X o)) (ho' : OpR X (compareOp op') (rD X o')) (ha : PE X a (dE X wa)) (hb : PE X b (dE X wb)) (hc : PE X c (dE X wc))
    (hm : lastMarks [op, op'] [b, c] = false := by with_unfolding_all rfl) : PT X (.Compare a [op, op'] [b, c] pos) (dT X (wTest (wChain o o' wa wb wc))) := PT.imp (pt_chain ho ho' ha hb hc hm) fun _ _ _ => test_pass fun _ _ _ => chain_pass
theorem de_chain {op op' : CmpOp} {o o' : DOp} (ho : OpR X (compareOp op) (rD X o)) (ho' : OpR X (compareOp op') (rD X o')) (ha : PE X a (dE X wa)) (hb : PE X b (dE X wb)) (hc : PE X c (dE X wc))
    (hm : lastMarks [op, op'] [b, c] = false := by with_unfolding_all rfl) : PE X (.Compare a [op, op'] [b, c] pos) (dE X (wChain o o' wa wb wc)) := PE.imp (pe_chain ho ho' ha hb hc hm) fun _ _ _ => chain_pass
theorem pg_nm {i : Nat} {x : Str} {pos : Pos} (hN : X.N.Nodup) (hi : X.N[i]? = some x := by rfl) (hx : Loc X.env.scope x := by first | exact Or.inl rfl | exact Or.inr rfl) (hf : X.fn x = true ∨ X.env.scope.names.lookup x = some .local := by first | exact .inl rfl | exact .inr rfl | assumption) : PG X (.Name x pos) (gName i) := pg_name hN hi hx hf
def dIn : DOp := opOr dInQ dInS
def dNotIn : DOp := opOr dNotInQ dNotInS
theorem od_in (hu : X.A.units + 150 < cLine) : OpR X (compareOp .In) (rD X dIn) := OpD.or (od_inQ hu) od_inS
theorem od_notIn (hu : X.A.units + 150 < cLine) : OpR X (compareOp .NotIn) (rD X dNotIn) := OpD.or (od_notInQ hu) od_notInS
end

/-! ## defs -/
def startD (n : Nat) (ds : List D) : DEnv := ds.map some ++ List.replicate (n - ds.length) none
theorem er_start {K : PySem.W.Frag} {ρ : List Addr} {H : Hp} {ds : List D} {vs : List V} {N : List Str} (h : VRs K ρ H ds vs) (hl : ds.length ≤ N.length) : ER K ρ H (startD N.length ds) (L2.start N vs) := by
  unfold startD L2.start
  refine ⟨by simp [h.length], fun i d e => ?_⟩
  by_cases hi : i < ds.length
  · rw [List.getElem?_append_left (by simpa using hi), List.getElem?_map] at e
    cases q : ds[i]? with
    | none =>
      rw [q] at e
      cases e
    | some d' =>
      rw [q] at e
      cases e
      obtain ⟨v, h1, h2⟩ := h.get q
      refine ⟨v, ?_, h2⟩
      rw [List.getElem?_append_left (by simpa [h.length] using hi), List.getElem?_map, h1]
      rfl
  · rw [List.getElem?_append_right (by simpa using hi)] at e
    have := List.mem_of_getElem? e
    have := List.eq_of_mem_replicate this
    cases this
/-- what is wanted behind a def's body -/
abbrev endsD (R : DQ) : DEnds := { nx := fun _ S => R .non S, rt := R }
theorem fn_ok {P : Program} {w : World} {K : PySem.W.Frag} {mg : Str → Option Value} {base : Heap} {x qual : Str} {st : Stmt} {f : Addr} {fd : FuncData} {N ps : List Str} {k : Nat} {sp : DSp} {ws : WS} (F : Fun K x qual st f fd) (Sc : FnScope N ps (defScope st))
    (hps : ps.length ≤ N.length) (hlen : ∀ ds S R, sp ds S R → ds.length = ps.length)
    (body : ∀ (cdv : Value) (A : Around) (outer : List Env) (s : Shared) (H : Hp) (E : XK), Room k (A.deeper (envOfC qual (defScope st) s.heap.objs.size f cdv)) →
      PSs (cxOf CX0 P w K mg base N qual (defScope st) f cdv A outer s H E).nox (defBody st) (dS (cxOf CX0 P w K mg base N qual (defScope st) f cdv A outer s H E).nox ws))
    (sem : ∀ ds S R, sp ds S R → ws (endsD R) (startD N.length ds) S) : FnOk P w K mg base CX0 (k + 1) f fd ps (spD w K mg sp) := by
  refine F.ok Sc (fun vs H Q E ⟨ρ, S, ds, R, W, r, h, _⟩ => by rw [r.length]; exact hlen _ _ _ h) (fun cdv A outer s H vs Q E hr ⟨ρ, S, ds, R, W, r, h, p⟩ => ?_)
  refine ⟨_, body cdv A outer s H E hr, ρ, startD N.length ds, S, endsD R, W, er_start r (by rw [hlen _ _ _ h]; exact hps), sem _ _ _ h, fun τ S' q ρ' H' σ x1 W1 er => ?_, fun d S' q ρ' H' v x1 W1 rv => ?_, fun τ S' q => q.elim, fun τ S' q => q.elim⟩
  · exact p _ _ q ρ' H' _ x1 W1 .non
  · exact p _ _ q ρ' H' v x1 W1 rv
theorem fn_mk {P : Program} {w : World} {K : PySem.W.Frag} {mg : Str → Option Value} {base : Heap} {x qual : Str} {st : Stmt} {f : Addr} {fd : FuncData} {N ps : List Str} {k : Nat} {sp : DSp} {ws : WS} (F : Fun K x qual st f fd) (Sc : FnScope N ps (defScope st))
    (hf : mg x = some (.ref f)) (hb : Binds K fd ps []) (hps : ps.length ≤ N.length) (hlen : ∀ ds S R, sp ds S R → ds.length = ps.length)
    (body : ∀ (cdv : Value) (A : Around) (outer : List Env) (s : Shared) (H : Hp) (E : XK), Room k (A.deeper (envOfC qual (defScope st) s.heap.objs.size f cdv)) →
      PSs (cxOf CX0 P w K mg base N qual (defScope st) f cdv A outer s H E).nox (defBody st) (dS (cxOf CX0 P w K mg base N qual (defScope st) f cdv A outer s H E).nox ws))
    (sem : ∀ ds S R, sp ds S R → ws (endsD R) (startD N.length ds) S) : FnD P w K mg base (k + 1) x sp := ⟨f, fd, ps, fn_ok F Sc hps hlen body sem, hf, F.kp, hb⟩
theorem room_units {k : Nat} {A : Around} (r : Room k A) : A.units + 150 < cLine := by have := r.un; omega

/-! ## the law's end -/
/-- the script, of any ints -/
def scriptD (ns : List Int) : D := .fls (ns.map D.int)
theorem vrs_ints {K : PySem.W.Frag} {ρ : List Addr} {H : Hp} : ∀ ns : List Int, VRs K ρ H (ns.map D.int) (ns.map V.int)
  | [] => .nil
  | n :: ns => .cons .int (vrs_ints ns)
theorem wd_nil {w : World} {K : PySem.W.Frag} {mg : Str → Option Value} {H : Hp} : Wd w K mg [] [] H := ⟨rfl, List.nodup_nil, fun l a o h => by simp at h⟩
theorem walk_mk {l : PySem.W.OpenLaw} {n k : Nat} {q : Program} {loose : List Str} {XP : (Str → Option Value) → Heap → Prop} {YP : World → Heap → Prop} {d : DefRec} {K : Params → PySem.W.Frag} {sp : DSp} {x : Str}
    (hn : l.most = some n) (hn2 : n ≤ sizeLine) (hdf : d.params.defaults = []) (hr : Room k callerA)
    (hY : ∀ (w : World) (h : Heap), YP w h → (K w.params).In h)
    (F : ∀ (w : World) (mg : Str → Option Value) (fa : Addr) (h : Heap), (K w.params).In h → h.Ns mainGlobals mg → mg d.name = some (.ref fa) →
      ∃ fd : FuncData, (∀ (s : Shared) (u : Value), BindsTo s fd ⟨[u], []⟩ [(x, u)]) ∧
        ∀ base : Heap, (K w.params).In base → base.Ns mainGlobals mg → FnOk l.prog w (K w.params) mg base CX0 k fa fd [x] (spD w (K w.params) mg sp))
    (hsp : ∀ ns : List Int, ns.length ≤ n → sp [scriptD ns] [] fun v _ => v = .bl true) :
    PySem.W.WalkO q loose XP YP l.row.toRowW d [] (fun f vs => PySem.call f vs) := by
  refine L2.walk_of (n := n) (k := k) (x := x) (CX := fun _ => CX0) (sp := fun w => fun vs H Q E => ∀ mg, spD w (K w.params) mg sp vs H Q E) hn hn2 hdf hr hY (fun w mg fa h h1 h2 h3 => ?_) (fun w H a ns hl hO hS mg => ?_) fun _ _ _ _ _ z => z
  · obtain ⟨fd, hb, hF⟩ := F w mg fa h h1 h2 h3
    exact ⟨fd, hb, fun base b1 b2 => (hF base b1 b2).imp fun vs H Q E hh => hh mg⟩
  · refine ⟨[], [], [scriptD ns], _, wd_nil, .cons (.fls ?_ (vrs_ints ns)) .nil, hsp ns hl, fun d S' e ρ' H' v x1 W1 rv => ?_⟩
    · rcases hS with (h1 | ⟨o, h1⟩) | h1
      · rcases hO a with h2 | ⟨o, xs, h2⟩
        · rw [h2] at h1
          cases h1
        · rw [h2] at h1
          cases h1
      · exact .inl ⟨o, h1⟩
      · exact .inr (.inr h1)
    · subst e
      exact rv.bl_of
end Dl

namespace Dl
open PySem L2

/-! ## running predicate transformers -/
/-- what is wanted behind a statement that others follow -/
def seqE (s' : WS) (E : DEnds) : DEnds := { E with nx := fun τ' S' => s' E τ' S' }
section
variable {τ : DEnv} {S : Sto} {R : DQ} {Rt : Bool → Sto → Prop} {Ra : List D → Sto → Prop} {E : DEnds} {i j : Nat} {d c : D} {w wa wb wc we : WE} {wr : WA} {t u : WT} {s s' : WS} {o o' : DOp} {g : WG} {gs : WGs} {b : Bool} {x y z : Str} {m n k : Int} {ds xs ys : List D}
@[simp] theorem and_asc {p q r : Prop} : ((p ∧ q) ∧ r) ↔ (p ∧ (q ∧ r)) := and_assoc
@[simp ↓] theorem wVar_ap : wVar i τ S R = ∃ d, τ[i]? = some (some d) ∧ R d S := rfl
@[simp ↓] theorem wC_ap : wC d τ S R = R d S := rfl
@[simp ↓] theorem wOp_ap : wOp o wa wb τ S R = wa τ S fun d1 S1 => wb τ S1 fun d2 S2 => o d1 d2 S2 R := rfl
@[simp ↓] theorem wTest_ap : wTest w τ S Rt = w τ S fun d S1 => ∃ b, d = .bl b ∧ Rt b S1 := rfl
@[simp ↓] theorem wChain_ap : wChain o o' wa wb wc τ S R = wa τ S fun d1 S1 => wb τ S1 fun d2 S2 => o d1 d2 S2 fun d S3 => ∃ k, d = .bl k ∧ if k = true then wc τ S3 fun d3 S4 => o' d2 d3 S4 R else R (.bl false) S3 := rfl
@[simp ↓] theorem wTruth_ap : wTruth w τ S Rt = w τ S fun d S1 => ∃ b, truD S1 d = some b ∧ Rt b S1 := rfl
@[simp ↓] theorem wAnd_ap : wAnd t u τ S Rt = t τ S fun c S1 => if c = true then u τ S1 Rt else Rt false S1 := rfl
@[simp ↓] theorem wOr_ap : wOr t u τ S Rt = t τ S fun c S1 => if c = true then Rt true S1 else u τ S1 Rt := rfl
@[simp ↓] theorem wNot_ap : wNot t τ S Rt = t τ S fun c S1 => Rt (!c) S1 := rfl
@[simp ↓] theorem wAndV_ap : wAndV wa wb τ S R = wa τ S fun d S1 => ∃ b, truD S1 d = some b ∧ if b = true then wb τ S1 R else R d S1 := rfl
@[simp ↓] theorem wOrV_ap : wOrV wa wb τ S R = wa τ S fun d S1 => ∃ b, truD S1 d = some b ∧ if b = true then R d S1 else wb τ S1 R := rfl
@[simp ↓] theorem wNotV_ap : wNotV wa τ S R = wa τ S fun d S1 => ∃ b, truD S1 d = some b ∧ R (.bl (!b)) S1 := rfl
@[simp ↓] theorem wIf_ap : wIf t wa wb τ S R = t τ S fun c S1 => if c = true then wa τ S1 R else wb τ S1 R := rfl
@[simp ↓] theorem wNil_ap : wNil τ S Ra = Ra [] S := rfl
@[simp ↓] theorem wCons_ap : wCons wa wr τ S Ra = wa τ S fun d S1 => wr τ S1 fun ds S2 => Ra (d :: ds) S2 := rfl
@[simp ↓] theorem wTup_ap : wTup wr τ S R = wr τ S fun ds S1 => ds.length ≤ sizeLine ∧ R (.tup ds) S1 := rfl
@[simp ↓] theorem wLst_ap : wLst wr τ S R = wr τ S fun ds S1 => ds.length ≤ sizeLine ∧ R (.loc S1.length) (S1 ++ [.lst ds]) := rfl
@[simp ↓] theorem wNoPart_ap {Ro : Option Int → Sto → Prop} : wNoPart τ S Ro = Ro none S := rfl
@[simp ↓] theorem wPart_ap {Ro : Option Int → Sto → Prop} : wPart w τ S Ro = w τ S fun d S1 => ∃ i, d = .int i ∧ Ro (some i) S1 := rfl
@[simp ↓] theorem wSl_ap {o : DSl} {wl wh : WO} : wSl o we wl wh τ S R = we τ S fun d S1 => wl τ S1 fun l S2 => wh τ S2 fun u S3 => o d l u S3 R := rfl
@[simp ↓] theorem wCB_ap {o : DCall} : wCB o wr τ S R = wr τ S fun ds S1 => o ds S1 R := rfl
@[simp ↓] theorem wCall_ap {sp : DSp} : wCall sp wr τ S R = wr τ S fun ds S1 => sp ds S1 R := rfl
@[simp ↓] theorem wIsi_ap {T : String} : wIsi T we τ S R = we τ S fun d S1 => ∃ t b, typD S1 d = some t ∧ kitB t T = some b ∧ R (.bl b) S1 := rfl
@[simp ↓] theorem wNeg_ap : wNeg we τ S R = we τ S fun d S1 => ∃ i, d = .int i ∧ R (.int (-i)) S1 := rfl
@[simp ↓] theorem wMt0_ap {T : String} {o : DMt} : wMt0 T o we τ S R = we τ S fun d S1 => tyD S1 T d ∧ o d [] S1 R := rfl
@[simp ↓] theorem wMt_ap {T : String} {o : DMt} : wMt T o we wr τ S R = we τ S fun d S1 => tyD S1 T d ∧ wr τ S1 fun ds S2 => o d ds S2 R := rfl
@[simp ↓] theorem wSkip_ap : wSkip E τ S = E.nx τ S := rfl
@[simp ↓] theorem wSeq_ap : wSeq s s' E τ S = s (seqE s' E) τ S := rfl
@[simp ↓] theorem seqE_nx : (seqE s' E).nx τ S = s' E τ S := rfl
@[simp ↓] theorem seqE_rt : (seqE s' E).rt = E.rt := rfl
@[simp ↓] theorem seqE_bk : (seqE s' E).bk = E.bk := rfl
@[simp ↓] theorem seqE_ct : (seqE s' E).ct = E.ct := rfl
@[simp ↓] theorem wBreak_ap : wBreak E τ S = E.bk τ S := rfl
@[simp ↓] theorem wCont_ap : wCont E τ S = E.ct τ S := rfl
@[simp ↓] theorem wDrop_ap : wDrop we E τ S = we τ S fun _ S1 => E.nx τ S1 := rfl
@[simp ↓] theorem wRet_ap : wRet we E τ S = we τ S E.rt := rfl
@[simp ↓] theorem wRetN_ap : wRetN E τ S = E.rt .non S := rfl
@[simp ↓] theorem wIfS_ap : wIfS t s s' E τ S = t τ S fun b S1 => if b = true then s E τ S1 else s' E τ S1 := rfl
@[simp ↓] theorem wgName_ap {Rn : DEnv → Sto → Prop} : wgName i d τ S Rn = Rn (τ.set i (some d)) S := rfl
theorem wgNil_ap {Rn : DEnv → Sto → Prop} : wgNil ds τ S Rn = (ds = [] ∧ Rn τ S) := rfl
theorem wgCons_ap {Rn : DEnv → Sto → Prop} : wgCons g gs ds τ S Rn = ∃ d r, ds = d :: r ∧ g d τ S fun τ1 S1 => gs r τ1 S1 Rn := rfl
theorem wgTup_ap {Rn : DEnv → Sto → Prop} {n : Nat} : wgTup n gs d τ S Rn = ∃ ds, d = .tup ds ∧ ds.length = n ∧ gs ds τ S Rn := rfl
@[simp ↓] theorem wgNil_nil {Rn : DEnv → Sto → Prop} : wgNil [] τ S Rn = Rn τ S := by simp [wgNil_ap]
@[simp ↓] theorem wgNil_cons {Rn : DEnv → Sto → Prop} : wgNil (d :: ds) τ S Rn = False := by simp [wgNil_ap]
@[simp ↓] theorem wgCons_cons {Rn : DEnv → Sto → Prop} : wgCons g gs (d :: ds) τ S Rn = g d τ S fun τ1 S1 => gs ds τ1 S1 Rn := by
  rw [wgCons_ap]
  refine propext ⟨fun ⟨d', r', e, h⟩ => ?_, fun h => ⟨_, _, rfl, h⟩⟩
  cases e
  exact h
@[simp ↓] theorem wgTup_tup {Rn : DEnv → Sto → Prop} {n : Nat} : wgTup n gs (.tup ds) τ S Rn = (ds.length = n ∧ gs ds τ S Rn) := by simp [wgTup_ap]
@[simp ↓] theorem wgSub_ap {Rn : DEnv → Sto → Prop} {op : DSet} : wgSub wa wb op d τ S Rn = wa τ S fun d1 S1 => wb τ S1 fun d2 S2 => op d1 d2 d S2 fun S3 => Rn τ S3 := rfl
@[simp ↓] theorem wAsg_ap : wAsg we g E τ S = we τ S fun d S1 => g d τ S1 E.nx := rfl
@[simp ↓] theorem wPar_ap : wPar i j wr E τ S = wr τ S fun ds S1 => ∃ d c, ds = [d, c] ∧ E.nx ((τ.set i (some d)).set j (some c)) S1 := rfl
@[simp ↓] theorem wAug_ap : wAug i we o E τ S = ∃ d, τ[i]? = some (some d) ∧ we τ S fun c S1 => o d c S1 fun z S2 => E.nx (τ.set i (some z)) S2 := rfl
@[simp ↓] theorem wFor_ap {wi : WI} : wFor wi g s E τ S = wi τ S fun items chk S1 => forGo chk g s E items τ S1 := rfl
@[simp ↓] theorem wLc_ap {wi : WI} {vs : List Nat} : wLc wi g t we vs τ S R = wi τ S fun items chk S1 => lcGo chk g t we (wipeD τ vs) R items [] S1 := rfl
@[simp ↓] theorem wYes_ap : wYes τ S Rt = Rt true S := rfl
@[simp ↓] theorem wiAny_ap {Ri : List D → (Sto → Prop) → Sto → Prop} : wiAny we τ S Ri = we τ S fun d S1 => ∃ p, itemsD S1 d = some p ∧ Ri p.1 p.2 S1 := rfl
@[simp ↓] theorem wiRange1_ap {Ri : List D → (Sto → Prop) → Sto → Prop} : wiRange1 wr τ S Ri = wr τ S fun ds S1 => ∃ j : Int, ds = [.int j] ∧ -(2 ^ 62) ≤ j ∧ j < 2 ^ 62 ∧ Ri (rangeD 0 j.toNat) (fun _ => True) S1 := rfl
@[simp ↓] theorem wiRange2_ap {Ri : List D → (Sto → Prop) → Sto → Prop} : wiRange2 wr τ S Ri = wr τ S fun ds S1 => ∃ i j : Int, ds = [.int i, .int j] ∧ (-(2 ^ 62) ≤ i ∧ i < 2 ^ 62 ∧ -(2 ^ 62) ≤ j ∧ j < 2 ^ 62) ∧ Ri (rangeD i (j - i).toNat) (fun _ => True) S1 := rfl
@[simp ↓] theorem wiZip_ap {Ri : List D → (Sto → Prop) → Sto → Prop} : wiZip wr τ S Ri = wr τ S fun ds S1 => ∃ d1 d2, ds = [d1, d2] ∧ ((∃ xs ys, d1 = .tup xs ∧ d2 = .tup ys ∧ Ri (zipD xs ys) (fun S => True ∧ True) S1) ∨
  ∃ p q, lstD S1 d1 = some p ∧ lstD S1 d2 = some q ∧ Ri (zipD p.1 q.1) (fun S => p.2 S ∧ q.2 S) S1) := rfl
@[simp ↓] theorem wiEnum_ap {Ri : List D → (Sto → Prop) → Sto → Prop} : wiEnum wr τ S Ri = wr τ S fun ds S1 => ∃ d p, ds = [d] ∧ lstD S1 d = some p ∧ Ri (enumD p.1) p.2 S1 := rfl

/-! ### the operations -/
@[simp] theorem dAdd_int : dAdd (.int m) (.int n) S R = R (.int (m + n)) S := by simp [dAdd, opOr, dAddI, dAddS, dAddT, dAddL]
@[simp] theorem dAdd_str : dAdd (.str x) (.str y) S R = (x.length + y.length ≤ sizeLine ∧ R (.str (x ++ y)) S) := by simp [dAdd, opOr, dAddI, dAddS, dAddT, dAddL]
@[simp] theorem dAdd_tup : dAdd (.tup xs) (.tup ys) S R = (xs.length + ys.length ≤ sizeLine ∧ R (.tup (xs ++ ys)) S) := by simp [dAdd, opOr, dAddI, dAddS, dAddT, dAddL]
@[simp] theorem dAdd_loc : dAdd (.loc i) (.loc j) S R = ∃ xs ys, S[i]? = some (.lst xs) ∧ S[j]? = some (.lst ys) ∧ xs.length + ys.length ≤ sizeLine ∧ R (.loc S.length) (S ++ [.lst (xs ++ ys)]) := by simp [dAdd, opOr, dAddI, dAddS, dAddT, dAddL]
@[simp] theorem dSub_int : dSub (.int m) (.int n) S R = R (.int (m - n)) S := by simp [dSub]
@[simp] theorem dMul_int : dMul (.int m) (.int n) S R = (CMulW m n ∧ R (.int (m * n)) S) := by simp [dMul, opOr, dMulI, dMulS, dMulL]
@[simp] theorem dMul_str : dMul (.str x) (.int n) S R = (0 ≤ n ∧ n < 2 ^ 62 ∧ x.length * n.toNat ≤ sizeLine ∧ R (.str (repS x n.toNat)) S) := by simp [dMul, opOr, dMulI, dMulS, dMulL]
@[simp] theorem dMod_int : dMod (.int m) (.int n) S R = (n ≠ 0 ∧ R (.int (m.fmod n)) S) := by simp [dMod]
@[simp] theorem dDiv_int : dDiv (.int m) (.int n) S R = (CDivW m n ∧ R (.int (m / n)) S) := by simp [dDiv]
@[simp] theorem dPow_int : dPow (.int m) (.int n) S R = (CPow m n ∧ R (.int (m ^ n.toNat)) S) := by simp [dPow]
@[simp] theorem dLtI_int : dLtI (.int m) (.int n) S R = R (.bl (decide (m < n))) S := by simp [dLtI]
@[simp] theorem dLe_int : dLe (.int m) (.int n) S R = R (.bl (decide (m ≤ n))) S := by simp [dLe]
@[simp] theorem dGt_int : dGt (.int m) (.int n) S R = R (.bl (decide (n < m))) S := by simp [dGt]
@[simp] theorem dGe_int : dGe (.int m) (.int n) S R = R (.bl (decide (n ≤ m))) S := by simp [dGe]
@[simp] theorem dIAdd_int : dIAdd (.int m) (.int n) S R = R (.int (m + n)) S := by simp [dIAdd, opOr, dAddI, dAddS]
@[simp] theorem dIAdd_str : dIAdd (.str x) (.str y) S R = (x.length + y.length ≤ sizeLine ∧ R (.str (x ++ y)) S) := by simp [dIAdd, opOr, dAddI, dAddS]
@[simp] theorem dEq_ap : dEq d c S R = ∃ b, eqD S d c = some b ∧ R (.bl b) S := rfl
@[simp] theorem dNe_ap : dNe d c S R = ∃ b, eqD S d c = some b ∧ R (.bl (!b)) S := rfl
@[simp] theorem dIsN_ap : dIsN d .non S R = R (.bl (isNonD d)) S := by simp [dIsN]
@[simp] theorem dIsNotN_ap : dIsNotN d .non S R = R (.bl (!isNonD d)) S := by simp [dIsNotN]
@[simp] theorem isNonD_non : isNonD .non = true := rfl
@[simp] theorem isNonD_int : isNonD (.int m) = false := rfl
@[simp] theorem isNonD_bl : isNonD (.bl b) = false := rfl
@[simp] theorem isNonD_str : isNonD (.str x) = false := rfl
@[simp] theorem isNonD_tup : isNonD (.tup ds) = false := rfl
@[simp] theorem isNonD_loc : isNonD (.loc i) = false := rfl
@[simp] theorem isNonD_fls : isNonD (.fls ds) = false := rfl
@[simp] theorem truD_non : truD S .non = some false := rfl
@[simp] theorem truD_bl : truD S (.bl b) = some b := rfl
@[simp] theorem truD_int : truD S (.int m) = some (m != 0) := rfl
@[simp] theorem truD_tup : truD S (.tup ds) = some (!ds.isEmpty) := rfl
@[simp] theorem truD_fls : truD S (.fls ds) = some (!ds.isEmpty) := rfl
@[simp] theorem typD_non : typD S .non = some "NoneType" := rfl
@[simp] theorem typD_bl : typD S (.bl b) = some "bool" := rfl
@[simp] theorem typD_int : typD S (.int m) = some "int" := rfl
@[simp] theorem typD_str : typD S (.str x) = some "str" := rfl
@[simp] theorem typD_tup : typD S (.tup ds) = some "tuple" := rfl
@[simp] theorem typD_fls : typD S (.fls ds) = some "list" := rfl
theorem typD_lst (h : S[i]? = some (.lst xs)) : typD S (.loc i) = some "list" := by simp [typD, h]
theorem typD_dct {kvs : List (D × D)} (h : S[i]? = some (.dct kvs)) : typD S (.loc i) = some "dict" := by simp [typD, h]
@[simp] theorem seqD_tup : seqD S (.tup ds) = some ds := rfl
@[simp] theorem seqD_fls : seqD S (.fls ds) = some ds := rfl
theorem seqD_loc (h : S[i]? = some (.lst xs)) : seqD S (.loc i) = some xs := by simp [seqD, h]
@[simp] theorem seqD_str : seqD S (.str x) = none := rfl
@[simp] theorem itemsD_tup : itemsD S (.tup ds) = some (ds, fun _ => True) := rfl
@[simp] theorem itemsD_fls : itemsD S (.fls ds) = some (ds, fun _ => True) := rfl
@[simp] theorem itemsD_str : itemsD S (.str x) = some (signsD x, fun _ => True) := rfl
theorem itemsD_loc (h : S[i]? = some (.lst xs)) : itemsD S (.loc i) = some (xs, fun S' => S'[i]? = some (.lst xs)) := by simp [itemsD, h]
@[simp] theorem lstD_fls : lstD S (.fls ds) = some (ds, fun _ => True) := rfl
@[simp] theorem lstD_tup : lstD S (.tup ds) = none := rfl
theorem lstD_loc (h : S[i]? = some (.lst xs)) : lstD S (.loc i) = some (xs, fun S' => S'[i]? = some (.lst xs)) := by simp [lstD, h]
@[simp] theorem lenD_tup : lenD S (.tup ds) = some ds.length := rfl
@[simp] theorem lenD_fls : lenD S (.fls ds) = some ds.length := rfl
theorem lenD_loc (h : S[i]? = some (.lst xs)) : lenD S (.loc i) = some xs.length := by simp [lenD, seqD_loc h]
theorem lenD_str (h : x.length ≤ sizeLine) : lenD S (.str x) = some x.length := by simp [lenD, h]
@[simp] theorem dLen_ap : dLen [d] S R = ∃ n, lenD S d = some n ∧ R (.int (n : Nat)) S := by simp [dLen]
@[simp] theorem dList_ap : dList [d] S R = ∃ xs, seqD S d = some xs ∧ R (.loc S.length) (S ++ [.lst xs]) := by simp [dList]
@[simp] theorem dTuple_ap : dTuple [d] S R = ∃ xs, seqD S d = some xs ∧ R (.tup xs) S := by simp [dTuple]
@[simp] theorem dMax2_ap : dMax2 [.int m, .int n] S R = R (.int (if n > m then n else m)) S := by simp [dMax2, and_assoc]
@[simp] theorem dMin2_ap : dMin2 [.int m, .int n] S R = R (.int (if n < m then n else m)) S := by simp [dMin2, and_assoc]
@[simp] theorem dAll_ap : dAll [d] S R = ∃ p bs, lstD S d = some p ∧ blsD p.1 = some bs ∧ R (.bl (bs.all id)) S := by simp [dAll]
@[simp] theorem dAny_ap : dAny [d] S R = ∃ p bs, lstD S d = some p ∧ blsD p.1 = some bs ∧ R (.bl (bs.any id)) S := by simp [dAny]
@[simp] theorem dIx_tup : dIx (.tup ds) (.int m) S R = ∃ d, atI ds m = some d ∧ R d S := by simp [dIx]
@[simp] theorem dIx_fls : dIx (.fls ds) (.int m) S R = ∃ d, atI ds m = some d ∧ R d S := by simp [dIx]
@[simp] theorem dIx_str : dIx (.str x) (.int m) S R = ∃ c, x.length ≤ sizeLine ∧ atI x.cps.toList m = some c ∧ R (.str ⟨#[c]⟩) S := by simp [dIx]
theorem dIx_loc (h : S[i]? = some (.lst xs)) : dIx (.loc i) (.int m) S R = ∃ d, atI xs m = some d ∧ R d S := by simp [dIx, seqD_loc h]
@[simp] theorem dSl_tup {lo hi : Option Int} : dSl (.tup ds) lo hi S R = R (.tup (cutD ds lo hi)) S := by simp [dSl, slOr, dSlL, dSlT, dSlS]
@[simp] theorem dSl_str {lo hi : Option Int} : dSl (.str x) lo hi S R = (x.length ≤ sizeLine ∧ R (.str (cutS x lo hi)) S) := by simp [dSl, slOr, dSlL, dSlT, dSlS, lstD]
theorem dSl_loc {lo hi : Option Int} (h : S[i]? = some (.lst xs)) : dSl (.loc i) lo hi S R = R (.loc S.length) (S ++ [.lst (cutD xs lo hi)]) := by simp [dSl, slOr, dSlL, dSlT, dSlS, lstD_loc h]
theorem dSetL_loc {Rs : Sto → Prop} (h : S[i]? = some (.lst xs)) : dSetL (.loc i) (.int m) d S Rs = ∃ j, ixN xs.length m = some j ∧ Rs (S.set i (.lst (xs.set j d))) := by simp [dSetL, h]
theorem dAppend_loc (h : S[i]? = some (.lst xs)) : dAppend (.loc i) [d] S R = (xs.length < sizeLine ∧ R .non (S.set i (.lst (xs ++ [d])))) := by simp [dAppend, h]
theorem tyD_loc (h : S[i]? = some (.lst xs)) : tyD S "list" (.loc i) := ⟨xs, rfl, h⟩
@[simp] theorem tyD_str : tyD S "str" (.str x) := rfl
@[simp] theorem startD_0 {n : Nat} : startD n [] = List.replicate n none := by simp [startD]
/-! ### places -/
theorem atI_nn {α : Type} {xs : List α} {m : Int} (h0 : 0 ≤ m) : atI xs m = xs[m.toNat]? := by
  unfold atI ixN
  rw [if_pos h0]
  by_cases h : m < xs.length
  · rw [if_pos h]
    rfl
  · rw [if_neg h]
    have : xs.length ≤ m.toNat := by omega
    rw [List.getElem?_eq_none this]
    rfl
@[simp] theorem atI_0 {α : Type} {xs : List α} : atI xs 0 = xs[0]? := atI_nn (by decide)
@[simp] theorem atI_1 {α : Type} {xs : List α} : atI xs 1 = xs[1]? := atI_nn (by decide)
@[simp] theorem atI_2 {α : Type} {xs : List α} : atI xs 2 = xs[2]? := atI_nn (by decide)
@[simp] theorem atI_3 {α : Type} {xs : List α} : atI xs 3 = xs[3]? := atI_nn (by decide)
@[simp] theorem atI_4 {α : Type} {xs : List α} : atI xs 4 = xs[4]? := atI_nn (by decide)
@[simp] theorem atI_5 {α : Type} {xs : List α} : atI xs 5 = xs[5]? := atI_nn (by decide)
@[simp] theorem atI_6 {α : Type} {xs : List α} : atI xs 6 = xs[6]? := atI_nn (by decide)
@[simp] theorem atI_7 {α : Type} {xs : List α} : atI xs 7 = xs[7]? := atI_nn (by decide)
@[simp] theorem atI_8 {α : Type} {xs : List α} : atI xs 8 = xs[8]? := atI_nn (by decide)
@[simp] theorem atI_9 {α : Type} {xs : List α} : atI xs 9 = xs[9]? := atI_nn (by decide)
@[simp] theorem ixN_0 {n : Nat} : ixN n 0 = if 0 < n then some 0 else none := by
  unfold ixN
  rw [if_pos (by decide)]
  by_cases h : 0 < n
  · rw [if_pos h, if_pos (by omega)]
    rfl
  · rw [if_neg h, if_neg (by omega)]
@[simp] theorem ixN_1 {n : Nat} : ixN n 1 = if 1 < n then some 1 else none := by
  unfold ixN
  rw [if_pos (by decide)]
  by_cases h : 1 < n
  · rw [if_pos h, if_pos (by omega)]
    rfl
  · rw [if_neg h, if_neg (by omega)]
@[simp] theorem ixN_2 {n : Nat} : ixN n 2 = if 2 < n then some 2 else none := by
  unfold ixN
  rw [if_pos (by decide)]
  by_cases h : 2 < n
  · rw [if_pos h, if_pos (by omega)]
    rfl
  · rw [if_neg h, if_neg (by omega)]
@[simp] theorem ixN_3 {n : Nat} : ixN n 3 = if 3 < n then some 3 else none := by
  unfold ixN
  rw [if_pos (by decide)]
  by_cases h : 3 < n
  · rw [if_pos h, if_pos (by omega)]
    rfl
  · rw [if_neg h, if_neg (by omega)]
@[simp] theorem ixN_4 {n : Nat} : ixN n 4 = if 4 < n then some 4 else none := by
  unfold ixN
  rw [if_pos (by decide)]
  by_cases h : 4 < n
  · rw [if_pos h, if_pos (by omega)]
    rfl
  · rw [if_neg h, if_neg (by omega)]
@[simp] theorem ixN_5 {n : Nat} : ixN n 5 = if 5 < n then some 5 else none := by
  unfold ixN
  rw [if_pos (by decide)]
  by_cases h : 5 < n
  · rw [if_pos h, if_pos (by omega)]
    rfl
  · rw [if_neg h, if_neg (by omega)]
@[simp] theorem atI_neg1 {α : Type} {xs : List α} : atI xs (-1) = xs[xs.length - 1]? := by
  unfold atI ixN
  rw [if_neg (by decide)]
  by_cases h : xs = []
  · subst h
    rfl
  · have : 1 ≤ xs.length := by
      cases xs with
      | nil => exact absurd rfl h
      | cons _ _ => simp
    rw [if_pos (by omega)]
    have e : (-1 + (xs.length : Int)).toNat = xs.length - 1 := by omega
    rw [e]
    rfl
/-- two factors of less than 2 ^ a, 2 ^ b -/
theorem cmul_of {i j : Int} (a b : Nat) (ha : i.natAbs < 2 ^ a) (hb : j.natAbs < 2 ^ b) (h0 : 0 < a) (h1 : 0 < b) (h : a + b ≤ 1000000) : CMulW i j := wide_mul ha hb h0 h1 h
theorem kitB_self (s : String) : kitB s s = some true := by
  unfold kitB
  rw [if_pos (by simp)]
end

/-! ### loops -/
theorem forGo_nil {chk : Sto → Prop} {g : WG} {b : WS} {R : DEnds} {τ : DEnv} {S : Sto} : forGo chk g b R [] τ S = (chk S ∧ R.nx τ S) := rfl
theorem forGo_cons {chk : Sto → Prop} {g : WG} {b : WS} {R : DEnds} {d : D} {r : List D} {τ : DEnv} {S : Sto} : forGo chk g b R (d :: r) τ S =
  (chk S ∧ g d τ S fun τ1 S1 => b { nx := fun τ' S' => forGo chk g b R r τ' S', ct := fun τ' S' => forGo chk g b R r τ' S', bk := R.nx, rt := R.rt } τ1 S1) := rfl
/-- a for by an invariant over the items that are left; N: what the turn is to reach -/
theorem forGo_ind {chk : Sto → Prop} {g : WG} {b : WS} {R : DEnds} (I : List D → DEnv → Sto → Prop) (h0 : ∀ τ S, I [] τ S → chk S ∧ R.nx τ S)
    (hs : ∀ d r τ S (N : DEnv → Sto → Prop), I (d :: r) τ S → (∀ τ' S', I r τ' S' → N τ' S') → chk S ∧ g d τ S fun τ1 S1 => b { nx := N, ct := N, bk := R.nx, rt := R.rt } τ1 S1) :
    ∀ (items : List D) (τ : DEnv) (S : Sto), I items τ S → forGo chk g b R items τ S
  | [], τ, S, h => h0 τ S h
  | d :: r, τ, S, h => hs d r τ S _ h fun τ' S' h' => forGo_ind I h0 hs r τ' S' h'
theorem forGo_run {chk : Sto → Prop} {g : WG} {b : WS} {R : DEnds} {items : List D} {τ : DEnv} {S : Sto} (I : List D → DEnv → Sto → Prop) (hi : I items τ S) (h0 : ∀ τ S, I [] τ S → chk S ∧ R.nx τ S)
    (hs : ∀ d r τ S (N : DEnv → Sto → Prop), I (d :: r) τ S → (∀ τ' S', I r τ' S' → N τ' S') → chk S ∧ g d τ S fun τ1 S1 => b { nx := N, ct := N, bk := R.nx, rt := R.rt } τ1 S1) :
    forGo chk g b R items τ S := forGo_ind I h0 hs items τ S hi
/-- a comprehension by an invariant over the items left, what is made so far, the store -/
theorem lcGo_run {chk : Sto → Prop} {g : WG} {t : WT} {e : WE} {τ : DEnv} {R : DQ} {items acc : List D} {S : Sto} (I : List D → List D → Sto → Prop) (hi : I items acc S) (h0 : ∀ acc S, I [] acc S → chk S ∧ R (.loc S.length) (S ++ [.lst acc]))
    (hs : ∀ d r acc S (N : List D → Sto → Prop), I (d :: r) acc S → (∀ acc' S', I r acc' S' → N acc' S') → chk S ∧ g d τ S fun τ1 S1 => t τ1 S1 fun b S2 => if b = true then e τ1 S2 fun y S3 => acc.length < sizeLine ∧ N (acc ++ [y]) S3 else N acc S2) :
    lcGo chk g t e τ R items acc S := by
  induction items generalizing acc S with
  | nil => exact h0 acc S hi
  | cons d r ih => exact hs d r acc S _ hi fun acc' S' h' => ih h'

/-! ## stores that grow -/
/-- what stood stands -/
def Le (S S' : Sto) : Prop := ∀ (j : Nat) (o : O), S[j]? = some o → S'[j]? = some o
theorem Le.refl (S : Sto) : Le S S := fun _ _ h => h
theorem Le.trans {S S1 S2 : Sto} (a : Le S S1) (b : Le S1 S2) : Le S S2 := fun j o h => b j o (a j o h)
theorem Le.app (S T : Sto) : Le S (S ++ T) := fun j o h => by
  rw [List.getElem?_append_left (List.getElem?_eq_some_iff.mp h).1]
  exact h
theorem Le.len {S S' : Sto} (h : Le S S') : S.length ≤ S'.length := by
  cases hn : S.length with
  | zero => omega
  | succ n =>
    have : S[n]? = some S[n] := List.getElem?_eq_getElem (by omega)
    have := (List.getElem?_eq_some_iff.mp (h n _ this)).1
    omega
/-- all but the object at l -/
def LeX (l : Nat) (S S' : Sto) : Prop := S.length ≤ S'.length ∧ ∀ (j : Nat) (o : O), j ≠ l → S[j]? = some o → S'[j]? = some o
theorem LeX.refl (l : Nat) (S : Sto) : LeX l S S := ⟨Nat.le_refl _, fun _ _ _ h => h⟩
theorem LeX.trans {l : Nat} {S S1 S2 : Sto} (a : LeX l S S1) (b : LeX l S1 S2) : LeX l S S2 := ⟨Nat.le_trans a.1 b.1, fun j o n h => b.2 j o n (a.2 j o n h)⟩
theorem Le.x {S S' : Sto} (l : Nat) (h : Le S S') : LeX l S S' := ⟨h.len, fun j o _ e => h j o e⟩
theorem LeX.set {l : Nat} {S : Sto} {o : O} : LeX l S (S.set l o) := ⟨by simp, fun j o' n h => by
  rw [List.getElem?_set_ne (Ne.symm n)]
  exact h⟩
theorem get_set {S : Sto} {l : Nat} {o o' : O} (h : S[l]? = some o) : (S.set l o')[l]? = some o' := by
  rw [List.getElem?_set_self (List.getElem?_eq_some_iff.mp h).1]
theorem get_app {S T : Sto} {l : Nat} {o : O} (h : S[l]? = some o) : (S ++ T)[l]? = some o := Le.app S T l o h
@[simp] theorem get_new {S : Sto} {o : O} : (S ++ [o])[S.length]? = some o := List.getElem?_concat_length ..
theorem lt_of_get {S : Sto} {l : Nat} {o : O} (h : S[l]? = some o) : l < S.length := (List.getElem?_eq_some_iff.mp h).1
end Dl

namespace Dl
open PySem L2

/-! ## == of plain values -/
noncomputable instance : DecidableEq D := fun a b => Classical.propDecidable _
mutual
/-- whole numbers, texts, None and tuples of these, at most so deep -/
def plainD : Nat → D → Bool
  | _, .non => true
  | _, .int _ => true
  | _, .str _ => true
  | 0, .tup ds => false
  | n + 1, .tup ds => decide (ds.length ≤ 100000) && plainsD n ds
  | _, .bl _ => false
  | _, .fls _ => false
  | _, .loc _ => false
def plainsD : Nat → List D → Bool
  | _, [] => true
  | n, d :: ds => plainD n d && plainsD n ds
end
theorem plainD_tup {n : Nat} {ds : List D} : plainD (n + 1) (.tup ds) = true ↔ ds.length ≤ 100000 ∧ plainsD n ds = true := by simp [plainD]
mutual
theorem key_plain : ∀ (n : Nat) (d : D), plainD n d = true → ∃ k, keyOf d = some k ∧ k.depth ≤ n
  | n, .non, _ => ⟨.none, rfl, Nat.zero_le _⟩
  | n, .int i, _ => ⟨.num i, rfl, Nat.zero_le _⟩
  | n, .str x, _ => ⟨.text x, rfl, Nat.zero_le _⟩
  | 0, .tup ds, h => by simp [plainD] at h
  | n + 1, .tup ds, h => by
    obtain ⟨ks, h1, h2⟩ := keys_plain n ds (plainD_tup.mp h).2
    refine ⟨.tup ks, ?_, ?_⟩
    · show (keyOf.keysOf ds).map NestedKey.tup = _
      rw [h1]
      rfl
    · simp only [NestedKey.depth]
      omega
  | n, .bl _, h => by simp [plainD] at h
  | n, .fls _, h => by simp [plainD] at h
  | n, .loc _, h => by simp [plainD] at h
theorem keys_plain : ∀ (n : Nat) (ds : List D), plainsD n ds = true → ∃ ks, keyOf.keysOf ds = some ks ∧ NestedKey.depthAll ks ≤ n
  | n, [], _ => ⟨[], rfl, Nat.zero_le _⟩
  | n, d :: ds, h => by
    simp only [plainsD, Bool.and_eq_true] at h
    obtain ⟨k, h1, h2⟩ := key_plain n d h.1
    obtain ⟨ks, h3, h4⟩ := keys_plain n ds h.2
    refine ⟨k :: ks, ?_, ?_⟩
    · unfold keyOf.keysOf
      rw [h1, h3]
    · simp only [NestedKey.depthAll]
      omega
end
mutual
theorem key_inj : ∀ (n : Nat) (d c : D) (k : NestedKey), plainD n d = true → plainD n c = true → keyOf d = some k → keyOf c = some k → d = c
  | n, d, c, k, hd, hc, h1, h2 => by
    cases d with
    | non =>
      cases (show some NestedKey.none = some k from h1)
      cases c with
      | non => rfl
      | int _ => cases (show some (NestedKey.num _) = some NestedKey.none from h2)
      | str _ => cases (show some (NestedKey.text _) = some NestedKey.none from h2)
      | tup cs =>
        have h3 : (keyOf.keysOf cs).map NestedKey.tup = some NestedKey.none := h2
        cases e : keyOf.keysOf cs with
        | none => rw [e] at h3; cases h3
        | some ks => rw [e] at h3; cases h3
      | bl _ => simp [plainD] at hc
      | fls _ => simp [plainD] at hc
      | loc _ => simp [plainD] at hc
    | int i =>
      cases (show some (NestedKey.num i) = some k from h1)
      cases c with
      | non => cases (show some NestedKey.none = some (NestedKey.num i) from h2)
      | int j =>
        have := Option.some.inj (show some (NestedKey.num j) = some (NestedKey.num i) from h2)
        cases this
        rfl
      | str _ => cases (show some (NestedKey.text _) = some (NestedKey.num i) from h2)
      | tup cs =>
        have h3 : (keyOf.keysOf cs).map NestedKey.tup = some (NestedKey.num i) := h2
        cases e : keyOf.keysOf cs with
        | none => rw [e] at h3; cases h3
        | some ks => rw [e] at h3; cases h3
      | bl _ => simp [plainD] at hc
      | fls _ => simp [plainD] at hc
      | loc _ => simp [plainD] at hc
    | str x =>
      cases (show some (NestedKey.text x) = some k from h1)
      cases c with
      | non => cases (show some NestedKey.none = some (NestedKey.text x) from h2)
      | int j => cases (show some (NestedKey.num j) = some (NestedKey.text x) from h2)
      | str y =>
        have := Option.some.inj (show some (NestedKey.text y) = some (NestedKey.text x) from h2)
        cases this
        rfl
      | tup cs =>
        have h3 : (keyOf.keysOf cs).map NestedKey.tup = some (NestedKey.text x) := h2
        cases e : keyOf.keysOf cs with
        | none => rw [e] at h3; cases h3
        | some ks => rw [e] at h3; cases h3
      | bl _ => simp [plainD] at hc
      | fls _ => simp [plainD] at hc
      | loc _ => simp [plainD] at hc
    | tup ds =>
      have h3 : (keyOf.keysOf ds).map NestedKey.tup = some k := h1
      cases e : keyOf.keysOf ds with
      | none => rw [e] at h3; cases h3
      | some ks =>
        rw [e] at h3
        cases h3
        cases c with
        | non => cases (show some NestedKey.none = some (NestedKey.tup ks) from h2)
        | int j => cases (show some (NestedKey.num j) = some (NestedKey.tup ks) from h2)
        | str y => cases (show some (NestedKey.text y) = some (NestedKey.tup ks) from h2)
        | tup cs =>
          have h4 : (keyOf.keysOf cs).map NestedKey.tup = some (NestedKey.tup ks) := h2
          cases e2 : keyOf.keysOf cs with
          | none => rw [e2] at h4; cases h4
          | some ks' =>
            rw [e2] at h4
            cases h4
            cases n with
            | zero => simp [plainD] at hd
            | succ n =>
              rw [keys_inj n ds cs ks (plainD_tup.mp hd).2 (plainD_tup.mp hc).2 e e2]
        | bl _ => simp [plainD] at hc
        | fls _ => simp [plainD] at hc
        | loc _ => simp [plainD] at hc
    | bl _ => simp [plainD] at hd
    | fls _ => simp [plainD] at hd
    | loc _ => simp [plainD] at hd
theorem keys_inj : ∀ (n : Nat) (ds cs : List D) (ks : List NestedKey), plainsD n ds = true → plainsD n cs = true → keyOf.keysOf ds = some ks → keyOf.keysOf cs = some ks → ds = cs
  | n, ds, cs, ks, hd, hc, h1, h2 => by
    cases ds with
    | nil =>
      cases (show some [] = some ks from h1)
      cases cs with
      | nil => rfl
      | cons c cs =>
        unfold keyOf.keysOf at h2
        cases e1 : keyOf c with
        | none => rw [e1] at h2; cases h2
        | some k =>
          cases e2 : keyOf.keysOf cs with
          | none => rw [e1, e2] at h2; cases h2
          | some ks => rw [e1, e2] at h2; cases h2
    | cons d ds =>
      unfold keyOf.keysOf at h1
      cases e1 : keyOf d with
      | none => rw [e1] at h1; cases h1
      | some k =>
        cases e2 : keyOf.keysOf ds with
        | none => rw [e1, e2] at h1; cases h1
        | some ks1 =>
          rw [e1, e2] at h1
          cases h1
          cases cs with
          | nil => cases (show some [] = some (k :: ks1) from h2)
          | cons c cs =>
            unfold keyOf.keysOf at h2
            cases e3 : keyOf c with
            | none => rw [e3] at h2; cases h2
            | some k' =>
              cases e4 : keyOf.keysOf cs with
              | none => rw [e3, e4] at h2; cases h2
              | some ks' =>
                rw [e3, e4] at h2
                cases h2
                simp only [plainsD, Bool.and_eq_true] at hd hc
                rw [key_inj n d c k hd.1 hc.1 e1 e3, keys_inj n ds cs ks1 hd.2 hc.2 e2 e4]
end
theorem keyOf_some_none {d : D} : plainD 100 d = true → keyOf d ≠ none := fun h e => by
  obtain ⟨k, h1, _⟩ := key_plain 100 d h
  rw [e] at h1
  cases h1
/-- == of plain values is being the same -/
theorem eqD_plain {S : Sto} {d c : D} (hd : plainD 100 d = true) (hc : plainD 100 c = true) : eqD S d c = some (decide (d = c)) := by
  obtain ⟨k1, h1, h2⟩ := key_plain 100 d hd
  obtain ⟨k2, h3, h4⟩ := key_plain 100 c hc
  unfold eqD
  simp only [h1, h3]
  rw [if_pos (by omega)]
  congr 1
  cases e : NestedKey.beq k1 k2 with
  | true =>
    have e2 := NestedKey.eq_of_beq k1 k2 e
    subst e2
    exact (decide_eq_true (key_inj 100 d c k1 hd hc h1 h3)).symm
  | false =>
    refine (decide_eq_false fun z => ?_).symm
    subst z
    rw [h1] at h3
    cases h3
    rw [NestedKey.beq_self] at e
    cases e
@[simp] theorem eqD_int {S : Sto} {m n : Int} : eqD S (.int m) (.int n) = some (decide (m = n)) := by
  rw [eqD_plain (by simp [plainD]) (by simp [plainD])]
  simp
@[simp] theorem eqD_str {S : Sto} {x y : Str} : eqD S (.str x) (.str y) = some (decide (x = y)) := by
  rw [eqD_plain (by simp [plainD]) (by simp [plainD])]
  simp
@[simp] theorem eqD_int_str {S : Sto} {m : Int} {y : Str} : eqD S (.int m) (.str y) = some false := by
  rw [eqD_plain (by simp [plainD]) (by simp [plainD])]
  simp
@[simp] theorem eqD_str_int {S : Sto} {m : Int} {y : Str} : eqD S (.str y) (.int m) = some false := by
  rw [eqD_plain (by simp [plainD]) (by simp [plainD])]
  simp
@[simp] theorem eqD_bl {S : Sto} {a b : Bool} : eqD S (.bl a) (.bl b) = some (decide (a = b)) := by
  cases a <;> cases b <;> rfl
mutual
theorem plain_mono : ∀ {n m : Nat} (d : D), n ≤ m → plainD n d = true → plainD m d = true
  | n, m, .non, _, _ => by simp [plainD]
  | n, m, .int _, _, _ => by simp [plainD]
  | n, m, .str _, _, _ => by simp [plainD]
  | 0, m, .tup ds, _, h => by simp [plainD] at h
  | n + 1, 0, .tup ds, hm, _ => by omega
  | n + 1, m + 1, .tup ds, hm, h => by
    exact plainD_tup.mpr ⟨(plainD_tup.mp h).1, plains_mono ds (by omega) (plainD_tup.mp h).2⟩
  | n, m, .bl _, _, h => by simp [plainD] at h
  | n, m, .fls _, _, h => by simp [plainD] at h
  | n, m, .loc _, _, h => by simp [plainD] at h
theorem plains_mono : ∀ {n m : Nat} (ds : List D), n ≤ m → plainsD n ds = true → plainsD m ds = true
  | n, m, [], _, _ => by simp [plainsD]
  | n, m, d :: ds, hm, h => by
    simp only [plainsD, Bool.and_eq_true] at h ⊢
    exact ⟨plain_mono d hm h.1, plains_mono ds hm h.2⟩
end
theorem plains_mem {n : Nat} : ∀ {ds : List D} {d : D}, plainsD n ds = true → d ∈ ds → plainD n d = true
  | [], _, _, h => by cases h
  | c :: cs, d, hp, h => by
    simp only [plainsD, Bool.and_eq_true] at hp
    rcases List.mem_cons.mp h with e | h
    · rw [e]; exact hp.1
    · exact plains_mem hp.2 h
theorem plains_of {n : Nat} : ∀ {ds : List D}, (∀ d ∈ ds, plainD n d = true) → plainsD n ds = true
  | [], _ => by simp [plainsD]
  | c :: cs, h => by
    simp only [plainsD, Bool.and_eq_true]
    exact ⟨h c List.mem_cons_self, plains_of fun d hd => h d (List.mem_cons_of_mem _ hd)⟩

theorem blsD_map : ∀ bs : List Bool, blsD (bs.map D.bl) = some bs
  | [] => rfl
  | b :: bs => by
    simp [blsD, blsD_map bs]
theorem zipD_nil {us ws : List D} (h : [] = zipD us ws) (hl : us.length = ws.length) : us = [] ∧ ws = [] := by
  cases us with
  | nil => cases ws with
    | nil => exact ⟨rfl, rfl⟩
    | cons _ _ => simp at hl
  | cons _ _ => cases ws with
    | nil => simp at hl
    | cons _ _ => simp [zipD] at h
theorem zipD_cons {d : D} {r us ws : List D} (h : d :: r = zipD us ws) : ∃ u us' w ws', us = u :: us' ∧ ws = w :: ws' ∧ d = .tup [u, w] ∧ r = zipD us' ws' := by
  cases us with
  | nil => simp [zipD] at h
  | cons u us => cases ws with
    | nil => simp [zipD] at h
    | cons w ws =>
      simp [zipD] at h
      exact ⟨u, us, w, ws, rfl, rfl, h.1, h.2⟩
/-! ## isinstance -/
@[simp] theorem kitB_NoneType_bool : kitB "NoneType" "bool" = some false := by decide +kernel
@[simp] theorem kitB_NoneType_int : kitB "NoneType" "int" = some false := by decide +kernel
@[simp] theorem kitB_NoneType_str : kitB "NoneType" "str" = some false := by decide +kernel
@[simp] theorem kitB_NoneType_tuple : kitB "NoneType" "tuple" = some false := by decide +kernel
@[simp] theorem kitB_NoneType_list : kitB "NoneType" "list" = some false := by decide +kernel
@[simp] theorem kitB_NoneType_dict : kitB "NoneType" "dict" = some false := by decide +kernel
@[simp] theorem kitB_bool_bool : kitB "bool" "bool" = some true := by decide +kernel
@[simp] theorem kitB_bool_int : kitB "bool" "int" = some true := by decide +kernel
@[simp] theorem kitB_bool_str : kitB "bool" "str" = some false := by decide +kernel
@[simp] theorem kitB_bool_tuple : kitB "bool" "tuple" = some false := by decide +kernel
@[simp] theorem kitB_bool_list : kitB "bool" "list" = some false := by decide +kernel
@[simp] theorem kitB_bool_dict : kitB "bool" "dict" = some false := by decide +kernel
@[simp] theorem kitB_int_bool : kitB "int" "bool" = some false := by decide +kernel
@[simp] theorem kitB_int_int : kitB "int" "int" = some true := by decide +kernel
@[simp] theorem kitB_int_str : kitB "int" "str" = some false := by decide +kernel
@[simp] theorem kitB_int_tuple : kitB "int" "tuple" = some false := by decide +kernel
@[simp] theorem kitB_int_list : kitB "int" "list" = some false := by decide +kernel
@[simp] theorem kitB_int_dict : kitB "int" "dict" = some false := by decide +kernel
@[simp] theorem kitB_str_bool : kitB "str" "bool" = some false := by decide +kernel
@[simp] theorem kitB_str_int : kitB "str" "int" = some false := by decide +kernel
@[simp] theorem kitB_str_str : kitB "str" "str" = some true := by decide +kernel
@[simp] theorem kitB_str_tuple : kitB "str" "tuple" = some false := by decide +kernel
@[simp] theorem kitB_str_list : kitB "str" "list" = some false := by decide +kernel
@[simp] theorem kitB_str_dict : kitB "str" "dict" = some false := by decide +kernel
@[simp] theorem kitB_tuple_bool : kitB "tuple" "bool" = some false := by decide +kernel
@[simp] theorem kitB_tuple_int : kitB "tuple" "int" = some false := by decide +kernel
@[simp] theorem kitB_tuple_str : kitB "tuple" "str" = some false := by decide +kernel
@[simp] theorem kitB_tuple_tuple : kitB "tuple" "tuple" = some true := by decide +kernel
@[simp] theorem kitB_tuple_list : kitB "tuple" "list" = some false := by decide +kernel
@[simp] theorem kitB_tuple_dict : kitB "tuple" "dict" = some false := by decide +kernel
@[simp] theorem kitB_list_bool : kitB "list" "bool" = some false := by decide +kernel
@[simp] theorem kitB_list_int : kitB "list" "int" = some false := by decide +kernel
@[simp] theorem kitB_list_str : kitB "list" "str" = some false := by decide +kernel
@[simp] theorem kitB_list_tuple : kitB "list" "tuple" = some false := by decide +kernel
@[simp] theorem kitB_list_list : kitB "list" "list" = some true := by decide +kernel
@[simp] theorem kitB_list_dict : kitB "list" "dict" = some false := by decide +kernel
@[simp] theorem kitB_dict_bool : kitB "dict" "bool" = some false := by decide +kernel
@[simp] theorem kitB_dict_int : kitB "dict" "int" = some false := by decide +kernel
@[simp] theorem kitB_dict_str : kitB "dict" "str" = some false := by decide +kernel
@[simp] theorem kitB_dict_tuple : kitB "dict" "tuple" = some false := by decide +kernel
@[simp] theorem kitB_dict_list : kitB "dict" "list" = some false := by decide +kernel
@[simp] theorem kitB_dict_dict : kitB "dict" "dict" = some true := by decide +kernel

/-! ## numbers -/
theorem fmod_nn {a b : Int} (hb : 0 < b) : a.fmod b = a % b := Int.fmod_eq_emod_of_nonneg a (by omega)
theorem fmod_bounds (a : Int) {b : Int} (hb : 0 < b) : 0 ≤ a.fmod b ∧ a.fmod b < b := by
  rw [fmod_nn hb]
  exact ⟨Int.emod_nonneg _ (by omega), Int.emod_lt_of_pos _ hb⟩
theorem cdiv_of {i j : Int} (a : Nat) (h : 0 < j) (hb : j.natAbs < 2 ^ a) (h0 : 0 < a) (h9 : a ≤ 9000) : CDivW i j := wide_div h hb h0 h9

theorem atI_mem {α : Type} {xs : List α} {m : Int} (h0 : 0 ≤ m) (h1 : m < (xs.length : Int)) : ∃ y, atI xs m = some y ∧ y ∈ xs := by
  rw [atI_nn h0]
  have h2 : m.toNat < xs.length := by omega
  exact ⟨_, List.getElem?_eq_getElem h2, List.getElem_mem h2⟩
theorem strLen_app (a b : Str) : (a ++ b).length = a.length + b.length := PySem.Str.length_append a b
theorem strLen_one (c : Nat) : (⟨#[c]⟩ : Str).length = 1 := rfl
/-- a sign of a written text -/
theorem sign_at {x : Str} {m : Int} {n : Nat} (hx : x.length = n) (h0 : 0 ≤ m) (h1 : m < (n : Int)) : ∃ c, atI x.cps.toList m = some c ∧ c ∈ x.cps.toList := atI_mem h0 (by
  have : x.cps.toList.length = x.length := by simp [Str.length]
  omega)

/-! ## the laws' rows of digits -/
/-- what a row of digits may be -/
def Lf (a b : Int) : Prop := 0 ≤ a ∧ 0 ≤ b ∧ b < 2147483647
/-- a row of digits stands at l -/
def LAt (l : Nat) (S : Sto) : Prop := ∃ a b, S[l]? = some (.lst [.int a, .int b]) ∧ Lf a b
theorem LAt.set {l : Nat} {S : Sto} {a b : Int} (h : LAt l S) (h2 : Lf a b) : LAt l (S.set l (.lst [.int a, .int b])) := by
  obtain ⟨a', b', e, _⟩ := h
  exact ⟨a, b, get_set e, h2⟩
theorem LAt.le {l : Nat} {S S' : Sto} (h : LAt l S) (x : Le S S') : LAt l S' := by
  obtain ⟨a, b, e, q⟩ := h
  exact ⟨a, b, x _ _ e, q⟩
/-- what may happen while digits are drawn: the row at l is another one, new things stand behind -/
structure Gr (l : Nat) (S S' : Sto) : Prop where
  at_ : LAt l S'
  x : LeX l S S'
theorem Gr.refl {l : Nat} {S : Sto} (h : LAt l S) : Gr l S S := ⟨h, LeX.refl l S⟩
theorem Gr.trans {l : Nat} {S S1 S2 : Sto} (a : Gr l S S1) (b : Gr l S1 S2) : Gr l S S2 := ⟨b.at_, a.x.trans b.x⟩
theorem Gr.le {l : Nat} {S S1 S2 : Sto} (a : Gr l S S1) (b : Le S1 S2) : Gr l S S2 := ⟨a.at_.le b, a.x.trans (b.x l)⟩
theorem Gr.app {l : Nat} {S S1 : Sto} (a : Gr l S S1) (T : Sto) : Gr l S (S1 ++ T) := a.le (Le.app S1 T)
theorem Gr.get {l j : Nat} {S S' : Sto} {o : O} (g : Gr l S S') (h : S[j]? = some o) (n : j ≠ l) : S'[j]? = some o := g.x.2 j o n h
theorem LAt.ne {l j : Nat} {S : Sto} (h : LAt l S) (hj : S.length ≤ j) : j ≠ l := by
  obtain ⟨a, b, e, _⟩ := h
  have := lt_of_get e
  omega
/-- a def that draws: from the row at l, any value of which P holds -/
def Draw (l : Nat) (P : D → Prop) (S : Sto) (R : DQ) : Prop := LAt l S ∧ ∀ d S', P d → Gr l S S' → R d S'
/-- a pure def: the value d, new things may stand behind -/
def Pure (d : D) (S : Sto) (R : DQ) : Prop := ∀ S', Le S S' → R d S'
theorem Pure.here {d : D} {S : Sto} {R : DQ} (h : Pure d S R) : R d S := h S (Le.refl S)
theorem Pure.le {d : D} {S S' : Sto} {R : DQ} (h : Pure d S R) (x : Le S S') : Pure d S' R := fun S2 y => h S2 (x.trans y)
end Dl

namespace Dl
open PySem L2

/-! ## comprehensions, by an invariant of the store -/
inductive All2 {α β : Type} (Q : α → β → Prop) : List α → List β → Prop
  | nil : All2 Q [] []
  | cons {a : α} {b : β} {as : List α} {bs : List β} : Q a b → All2 Q as bs → All2 Q (a :: as) (b :: bs)
section
variable {α β : Type} {Q : α → β → Prop}
theorem All2.length {as : List α} {bs : List β} (h : All2 Q as bs) : as.length = bs.length := by
  induction h with
  | nil => rfl
  | cons _ _ ih => simp [ih]
theorem All2.app {as as' : List α} {bs bs' : List β} (h : All2 Q as bs) (h' : All2 Q as' bs') : All2 Q (as ++ as') (bs ++ bs') := by
  induction h with
  | nil => exact h'
  | cons a _ ih => exact .cons a ih
theorem All2.all {P : β → Prop} (hP : ∀ a b, Q a b → P b) {as : List α} {bs : List β} (h : All2 Q as bs) : ∀ b ∈ bs, P b := by
  induction h with
  | nil => intro b hb; cases hb
  | cons q _ ih =>
    intro b hb
    rcases List.mem_cons.mp hb with e | hb
    · rw [e]; exact hP _ _ q
    · exact ih b hb
theorem All2.map {f : α → β} : ∀ {as : List α} {bs : List β}, All2 (fun a b => b = f a) as bs → bs = as.map f
  | _, _, .nil => rfl
  | _, _, .cons h r => by rw [h, r.map]; rfl
theorem All2.imp {Q' : α → β → Prop} (hQ : ∀ a b, Q a b → Q' a b) {as : List α} {bs : List β} (h : All2 Q as bs) : All2 Q' as bs := by
  induction h with
  | nil => exact .nil
  | cons q _ ih => exact .cons (hQ _ _ q) ih
end
theorem lc_go {chk : Sto → Prop} {g : WG} {e : WE} {τ : DEnv} {R : DQ} {Q : D → D → Prop} {I : Sto → Prop} : ∀ {items acc : List D} {S : Sto}, I S → (∀ S', I S' → chk S') → acc.length + items.length ≤ sizeLine →
    (∀ d S' (N : DQ), d ∈ items → I S' → (∀ y S'', Q d y → I S'' → N y S'') → g d τ S' fun τ1 S1 => e τ1 S1 N) →
    (∀ ys S', I S' → All2 Q items ys → R (.loc S'.length) (S' ++ [.lst (acc ++ ys)])) → lcGo chk g wYes e τ R items acc S
  | [], acc, S, hI, hc, hl, hs, h0 => ⟨hc _ hI, by simpa using h0 [] S hI .nil⟩
  | d :: r, acc, S, hI, hc, hl, hs, h0 => ⟨hc _ hI, by
    simp only [wYes_ap, if_true]
    refine hs d S _ List.mem_cons_self hI fun y S'' q I' => ⟨by simp only [List.length_cons] at hl; omega, ?_⟩
    refine lc_go I' hc (by simp only [List.length_cons, List.length_append, List.length_nil] at hl ⊢; omega) (fun d S' N hd => hs d S' N (List.mem_cons_of_mem _ hd)) fun ys S' I2 a => ?_
    have := h0 (y :: ys) S' I2 (.cons q a)
    simpa using this⟩
/-- [e for g in items], each item's value as Q says -/
theorem lc_map {chk : Sto → Prop} {g : WG} {e : WE} {τ : DEnv} {R : DQ} {items : List D} {S : Sto} (Q : D → D → Prop) (I : Sto → Prop) (hI : I S) (hc : ∀ S', I S' → chk S') (hl : items.length ≤ sizeLine)
    (hs : ∀ d S' (N : DQ), d ∈ items → I S' → (∀ y S'', Q d y → I S'' → N y S'') → g d τ S' fun τ1 S1 => e τ1 S1 N)
    (h0 : ∀ ys S', I S' → All2 Q items ys → R (.loc S'.length) (S' ++ [.lst ys])) : lcGo chk g wYes e τ R items [] S :=
  lc_go hI hc (by simpa using hl) hs (by simpa using h0)
@[simp] theorem rangeD_len {lo : Int} {n : Nat} : (rangeD lo n).length = n := by simp [rangeD]
theorem rangeD_mem {lo : Int} {n : Nat} {d : D} (h : d ∈ rangeD lo n) : ∃ i : Int, d = .int i ∧ lo ≤ i ∧ i < lo + n := by
  simp [rangeD] at h
  obtain ⟨i, h1, h2⟩ := h
  exact ⟨_, h2.symm, by omega, by omega⟩
/-- a for whose turns all keep I of the store and J of the names -/
theorem for_keep {chk : Sto → Prop} {g : WG} {b : WS} {R : DEnds} {items : List D} {τ : DEnv} {S : Sto} (I : DEnv → Sto → Prop) (hi : I τ S) (hc : ∀ τ S', I τ S' → chk S') (h0 : ∀ τ S', I τ S' → R.nx τ S')
    (hs : ∀ d τ S' (N : DEnv → Sto → Prop), d ∈ items → I τ S' → (∀ τ' S'', I τ' S'' → N τ' S'') → g d τ S' fun τ1 S1 => b { nx := N, ct := N, bk := R.nx, rt := R.rt } τ1 S1) :
    forGo chk g b R items τ S := by
  refine forGo_run (fun its τ S' => I τ S' ∧ ∀ d ∈ its, d ∈ items) ⟨hi, fun _ h => h⟩ (fun τ S' h => ⟨hc _ _ h.1, h0 _ _ h.1⟩) fun d r τ S' N h hN => ⟨hc _ _ h.1, hs d τ S' N (h.2 d List.mem_cons_self) h.1 fun τ' S'' h' => hN _ _ ⟨h', fun c hc => h.2 c (List.mem_cons_of_mem _ hc)⟩⟩
/-- a def whose promise never holds -/
theorem fn_never {P : Program} {w : World} {K : PySem.W.Frag} {mg : Str → Option Value} {base : Heap} {x qual : Str} {st : Stmt} {f : Addr} {fd : FuncData} {N ps : List Str} {k : Nat} {sp : DSp} (F : Fun K x qual st f fd) (Sc : FnScope N ps (defScope st))
    (hf : mg x = some (.ref f)) (hb : Binds K fd ps []) (h : ∀ ds S R, ¬ sp ds S R) : FnD P w K mg base (k + 1) x sp :=
  ⟨f, fd, ps, F.ok Sc (fun _ _ _ _ ⟨_, _, _, _, _, _, q, _⟩ => absurd q (h _ _ _)) (fun _ _ _ _ _ _ _ _ _ ⟨_, _, _, _, _, _, q, _⟩ => absurd q (h _ _ _)), hf, F.kp, hb⟩
/-- the law's promise -/
def spLaw (n : Nat) : DSp := fun ds S R => ∃ ns, ds = [scriptD ns] ∧ ns.length ≤ n ∧ ∀ S', R (.bl true) S'
theorem FnD.law {P : Program} {w : World} {K : PySem.W.Frag} {mg : Str → Option Value} {base : Heap} {k : Nat} {x : Str} {sp : DSp} {fa : Addr} {fd : FuncData} {ps : List Str} (h : FnOk P w K mg base CX0 k fa fd ps (spD w K mg sp)) : FnOk P w K mg base CX0 k fa fd ps (spD w K mg sp) := h
end Dl

namespace Kk13
open PySem L2 Dl
/-- shape_of(atom): slots 0 atom -/
def w_shape_of : WS :=
  (wRet (wTup (wCons (wOp dIx (wVar 0) (wC (.int 0))) (wCons (wOp dSub (wCB dLen (wCons (wVar 0) wNil)) (wC (.int 1))) wNil))))
/-- rule_shape(rule): slots 0 rule, 1 word, 2 many -/
def w_rule_shape (sp_shape_of : DSp) : WS :=
  (wSeq (wAsg (wCall sp_shape_of (wCons (wOp dIx (wVar 0) (wC (.int 0))) wNil)) (wgTup 2 (wgCons (wgName 1) (wgCons (wgName 2) wgNil))))
  (wSeq (wIfS (wTest (wOp dIsNotN (wOp dIx (wVar 0) (wC (.int 1))) (wC .non)))
    (wAug 2 (wC (.int 1)) dIAdd)
    wSkip)
  (wRet (wTup (wCons (wVar 1) (wCons (wVar 2) wNil))))))
/-- _law_cell_at(script, k): slots 0 script, 1 k -/
def w_law_cell_at : WS :=
  (wSeq (wIfS (wTest (wOp dLtI (wVar 1) (wCB dLen (wCons (wVar 0) wNil))))
    (wRet (wOp dIx (wVar 0) (wVar 1)))
    wSkip)
  (wRet (wC (.int 0))))
/-- _law_left(script, k): slots 0 script, 1 k, 2 cell, 3 seed -/
def w_law_left (sp_law_cell_at : DSp) : WS :=
  (wSeq (wAsg (wCall sp_law_cell_at (wCons (wVar 0) (wCons (wVar 1) wNil))) (wgName 2))
  (wSeq (wAsg (wOp dMod (wOp dMul (wOp dAdd (wOp dAdd (wOp dMod (wVar 2) (wC (.int 2147483629))) (wOp dMul (wOp dMul (wC (.int 7919)) (wVar 1)) (wVar 1))) (wC (.int 11))) (wC (.int 48271))) (wC (.int 2147483647))) (wgName 3))
  (wSeq (wIfS (wTest (wOp dEq (wOp dMod (wCall sp_law_cell_at (wCons (wVar 0) (wCons (wC (.int 0)) wNil))) (wC (.int 2))) (wC (.int 0))))
    (wAsg (wC (.int 0)) (wgName 2))
    wSkip)
  (wRet (wLst (wCons (wOp dMod (wVar 2) (wOp dPow (wC (.int 10)) (wC (.int 30)))) (wCons (wVar 3) wNil)))))))
/-- _law_pick(left, many): slots 0 left, 1 many, 2 digit -/
def w_law_pick : WS :=
  (wSeq (wIfS (wTest (wOp dGt (wOp dIx (wVar 0) (wC (.int 0))) (wC (.int 0))))
    (wSeq (wAsg (wOp dMod (wOp dIx (wVar 0) (wC (.int 0))) (wVar 1)) (wgName 2))
  (wSeq (wAsg (wOp dDiv (wOp dIx (wVar 0) (wC (.int 0))) (wVar 1)) (wgSub (wVar 0) (wC (.int 0)) dSetL))
  (wRet (wVar 2))))
    wSkip)
  (wSeq (wAsg (wOp dMod (wOp dAdd (wOp dMul (wOp dIx (wVar 0) (wC (.int 1))) (wC (.int 48271))) (wC (.int 12345))) (wC (.int 2147483647))) (wgSub (wVar 0) (wC (.int 1)) dSetL))
  (wRet (wOp dMod (wOp dMod (wOp dMul (wOp dIx (wVar 0) (wC (.int 1))) (wOp dIx (wVar 0) (wC (.int 1)))) (wC (.int 1999999973))) (wVar 1)))))
/-- _law_word(left): slots 0 left, 1 signs, 2 word, 3 k -/
def w_law_word (sp_law_pick : DSp) : WS :=
  (wSeq (wAsg (wC (.str "abcdefghijklmnopqrstuvwxyz0123456789.")) (wgName 1))
  (wSeq (wAsg (wOp dIx (wVar 1) (wCall sp_law_pick (wCons (wVar 0) (wCons (wC (.int 26)) wNil)))) (wgName 2))
  (wSeq (wFor (wiRange1 (wCons (wOp dIx (wLst (wCons (wC (.int 0)) (wCons (wC (.int 1)) (wCons (wC (.int 2)) (wCons (wC (.int 7)) (wCons (wC (.int 39)) wNil)))))) (wCall sp_law_pick (wCons (wVar 0) (wCons (wC (.int 5)) wNil)))) wNil)) (wgName 3)
    (wAsg (wOp dAdd (wVar 2) (wOp dIx (wVar 1) (wCall sp_law_pick (wCons (wVar 0) (wCons (wC (.int 37)) wNil))))) (wgName 2)))
  (wRet (wVar 2)))))
/-- _law_name(left): slots 0 left, 1 signs, 2 name, 3 k -/
def w_law_name (sp_law_pick : DSp) : WS :=
  (wSeq (wAsg (wC (.str "ABCDEFGHIJKLMNOPQRSTUVWXYZabcdefghijklmnopqrstuvwxyz0123456789")) (wgName 1))
  (wSeq (wAsg (wOp dIx (wVar 1) (wCall sp_law_pick (wCons (wVar 0) (wCons (wC (.int 26)) wNil)))) (wgName 2))
  (wSeq (wFor (wiRange1 (wCons (wOp dIx (wLst (wCons (wC (.int 0)) (wCons (wC (.int 0)) (wCons (wC (.int 1)) (wCons (wC (.int 2)) (wCons (wC (.int 11)) wNil)))))) (wCall sp_law_pick (wCons (wVar 0) (wCons (wC (.int 5)) wNil)))) wNil)) (wgName 3)
    (wAsg (wOp dAdd (wVar 2) (wOp dIx (wVar 1) (wCall sp_law_pick (wCons (wVar 0) (wCons (wC (.int 62)) wNil))))) (wgName 2)))
  (wRet (wVar 2)))))
/-- _law_any(left, deep): slots 0 left, 1 deep, 2 way, 3 many, 4 k -/
def w_law_any (sp_law_pick : DSp) (sp_law_name : DSp) (sp_law_word : DSp) (sp_law_any : DSp) : WS :=
  (wSeq (wAsg (wCall sp_law_pick (wCons (wVar 0) (wCons (wC (.int 6)) wNil))) (wgName 2))
  (wSeq (wIfS (wOr (wTest (wOp dLtI (wVar 2) (wC (.int 2)))) (wTest (wOp dEq (wVar 1) (wC (.int 0)))))
    (wRet (wCall sp_law_name (wCons (wVar 0) wNil)))
    wSkip)
  (wSeq (wIfS (wTest (wOp dEq (wVar 2) (wC (.int 2))))
    (wRet (wOp dIx (wLst (wCons (wC (.int 0)) (wCons (wNeg (wC (.int 3))) (wCons (wOp dSub (wOp dPow (wC (.int 10)) (wC (.int 40))) (wC (.int 1))) (wCons (wOp dSub (wC (.int 1)) (wOp dPow (wC (.int 10)) (wC (.int 40)))) (wCons (wCall sp_law_pick (wCons (wVar 0) (wCons (wOp dPow (wC (.int 10)) (wC (.int 9))) wNil))) wNil)))))) (wCall sp_law_pick (wCons (wVar 0) (wCons (wC (.int 5)) wNil)))))
    wSkip)
  (wSeq (wAsg (wCall sp_law_pick (wCons (wVar 0) (wCons (wOp dIx (wLst (wCons (wC (.int 2)) (wCons (wC (.int 2)) (wCons (wC (.int 2)) (wCons (wC (.int 2)) (wCons (wC (.int 2)) (wCons (wC (.int 3)) (wCons (wC (.int 5)) wNil)))))))) (wVar 1)) wNil))) (wgName 3))
  (wRet (wOp dAdd (wTup (wCons (wCall sp_law_word (wCons (wVar 0) wNil)) wNil)) (wCB dTuple (wCons (wLc (wiRange1 (wCons (wVar 3) wNil)) (wgName 4) wYes (wCall sp_law_any (wCons (wVar 0) (wCons (wOp dSub (wVar 1) (wC (.int 1))) wNil))) [4]) wNil))))))))
/-- _law_alike(found, due): slots 0 found, 1 due, 2 name, 3 one, 4 other -/
def w_law_alike (sp_law_alike : DSp) : WS :=
  (wSeq (wIfS (wTest (wOp dIsN (wVar 1) (wC .non)))
    (wRet (wOp dIsN (wVar 0) (wC .non)))
    wSkip)
  (wSeq (wIfS (wTruth (wIsi "bool" (wVar 1)))
    (wRet (wAndV (wIsi "bool" (wVar 0)) (wOp dEq (wVar 0) (wVar 1))))
    wSkip)
  (wSeq (wIfS (wTruth (wIsi "int" (wVar 1)))
    (wRet (wAndV (wIsi "int" (wVar 0)) (wAndV (wNotV (wIsi "bool" (wVar 0))) (wOp dEq (wVar 0) (wVar 1)))))
    wSkip)
  (wSeq (wIfS (wTruth (wIsi "str" (wVar 1)))
    (wRet (wAndV (wIsi "str" (wVar 0)) (wOp dEq (wVar 0) (wVar 1))))
    wSkip)
  (wSeq (wIfS (wTruth (wIsi "dict" (wVar 1)))
    (wSeq (wIfS (wOr (wNot (wTruth (wIsi "dict" (wVar 0)))) (wTest (wOp dNe (wCB dLen (wCons (wVar 0) wNil)) (wCB dLen (wCons (wVar 1) wNil)))))
    (wRet (wC (.bl false)))
    wSkip)
  (wRet (wCB dAll (wCons (wLc (wiAny (wVar 1)) (wgName 2) wYes (wAndV (wOp dIn (wVar 2) (wVar 0)) (wCall sp_law_alike (wCons (wOp dIx (wVar 0) (wVar 2)) (wCons (wOp dIx (wVar 1) (wVar 2)) wNil)))) [2]) wNil))))
    wSkip)
  (wSeq (wIfS (wOr (wAnd (wTruth (wIsi "tuple" (wVar 1))) (wNot (wTruth (wIsi "tuple" (wVar 0))))) (wAnd (wTruth (wIsi "list" (wVar 1))) (wNot (wTruth (wIsi "list" (wVar 0))))))
    (wRet (wC (.bl false)))
    wSkip)
  (wRet (wAndV (wOp dEq (wCB dLen (wCons (wVar 0) wNil)) (wCB dLen (wCons (wVar 1) wNil))) (wCB dAll (wCons (wLc (wiZip (wCons (wVar 0) (wCons (wVar 1) wNil))) (wgTup 2 (wgCons (wgName 3) (wgCons (wgName 4) wgNil))) wYes (wCall sp_law_alike (wCons (wVar 3) (wCons (wVar 4) wNil))) [3, 4]) wNil))))))))))
/-- law(script): slots 0 script, 1 k, 2 left, 3 atom, 4 head, 5 body, 6 group, 7 j -/
def w_law (sp_law_left : DSp) (sp_law_word : DSp) (sp_law_pick : DSp) (sp_law_any : DSp) (sp_law_alike : DSp) (sp_shape_of : DSp) (sp_rule_shape : DSp) : WS :=
  (wSeq (wFor (wiRange2 (wCons (wC (.int 1)) (wCons (wCB dMax2 (wCons (wC (.int 2)) (wCons (wCB dMin2 (wCons (wCB dLen (wCons (wVar 0) wNil)) (wCons (wC (.int 60)) wNil))) wNil))) wNil))) (wgName 1)
    (wSeq (wAsg (wCall sp_law_left (wCons (wVar 0) (wCons (wVar 1) wNil))) (wgName 2))
  (wSeq (wAsg (wOp dAdd (wTup (wCons (wCall sp_law_word (wCons (wVar 2) wNil)) wNil)) (wCB dTuple (wCons (wLc (wiRange1 (wCons (wCall sp_law_pick (wCons (wVar 2) (wCons (wC (.int 5)) wNil))) wNil)) (wgName 7) wYes (wCall sp_law_any (wCons (wVar 2) (wCons (wC (.int 5)) wNil))) [7]) wNil))) (wgName 3))
  (wSeq (wIfS (wNot (wTruth (wCall sp_law_alike (wCons (wCall sp_shape_of (wCons (wVar 3) wNil)) (wCons (wTup (wCons (wOp dIx (wVar 3) (wC (.int 0))) (wCons (wOp dSub (wCB dLen (wCons (wVar 3) wNil)) (wC (.int 1))) wNil))) wNil)))))
    (wRet (wC (.bl false)))
    wSkip)
  (wSeq (wAsg (wOp dAdd (wTup (wCons (wOp dIx (wVar 3) (wC (.int 0))) wNil)) (wCB dTuple (wCons (wSl dSl (wLst (wCons (wC (.int 7)) (wCons (wTup (wCons (wC (.str "b")) wNil)) (wCons (wC (.str "X")) wNil)))) wNoPart (wPart (wCall sp_law_pick (wCons (wVar 2) (wCons (wC (.int 4)) wNil))))) wNil))) (wgName 4))
  (wSeq (wAsg (wTup (wCons (wTup (wCons (wC (.str "is")) (wCons (wVar 3) wNil))) (wCons (wTup (wCons (wC (.str "is")) (wCons (wTup (wCons (wC (.str "c")) (wCons (wC (.str "X")) wNil))) wNil))) wNil))) (wgName 5))
  (wSeq (wIfS (wNot (wTruth (wCall sp_law_alike (wCons (wCall sp_rule_shape (wCons (wTup (wCons (wVar 4) (wCons (wC .non) (wCons (wVar 5) wNil)))) wNil)) (wCons (wTup (wCons (wOp dIx (wVar 4) (wC (.int 0))) (wCons (wOp dSub (wCB dLen (wCons (wVar 4) wNil)) (wC (.int 1))) wNil))) wNil)))))
    (wRet (wC (.bl false)))
    wSkip)
  (wFor (wiAny (wLst (wCons (wTup (wCons (wC (.str "count")) wNil)) (wCons (wTup (wCons (wC (.str "sum")) (wCons (wC (.str "X")) wNil))) (wCons (wTup (wCons (wC (.str "least")) (wCons (wC (.str "X")) wNil))) (wCons (wTup (wCons (wC (.str "most")) (wCons (wC (.str "X")) wNil))) wNil)))))) (wgName 6)
    (wIfS (wNot (wTruth (wCall sp_law_alike (wCons (wCall sp_rule_shape (wCons (wTup (wCons (wVar 4) (wCons (wVar 6) (wCons (wVar 5) wNil)))) wNil)) (wCons (wTup (wCons (wOp dIx (wVar 4) (wC (.int 0))) (wCons (wCB dLen (wCons (wVar 4) wNil)) wNil))) wNil)))))
    (wRet (wC (.bl false)))
    wSkip)))))))))
  (wRet (wC (.bl true))))

def S_law_cell_at : DSp := fun ds S R => ∃ (ns : List Int) (k : Int), ds = [scriptD ns, .int k] ∧ 0 ≤ k ∧ ∀ i, R (.int i) S
theorem sem_law_cell_at : ∀ ds S R, S_law_cell_at ds S R → ds.length = 2 ∧ w_law_cell_at (endsD R) (startD 2 ds) S := by
  rintro ds S R ⟨ns, k, rfl, hk, h⟩
  refine ⟨rfl, ?_⟩
  simp [w_law_cell_at, startD, scriptD, atI_nn hk]
  by_cases hl : k < ns.length
  · refine .inr ⟨hl, ?_⟩
    have h2 : k.toNat < ns.length := by omega
    exact ⟨_, ⟨_, List.getElem?_eq_getElem h2, rfl⟩, h _⟩
  · exact .inl ⟨by omega, h 0⟩

def S_law_pick : DSp := fun ds S R => ∃ (l : Nat) (m : Int), ds = [.loc l, .int m] ∧ 0 < m ∧ m.natAbs < 2 ^ 200 ∧ LAt l S ∧ ∀ d S', 0 ≤ d → d < m → Gr l S S' → R (.int d) S'
theorem sem_law_pick : ∀ ds S R, S_law_pick ds S R → ds.length = 2 ∧ w_law_pick (endsD R) (startD 3 ds) S := by
  rintro ds S R ⟨l, m, rfl, hm, hmb, ⟨a, b, hl, hab⟩, h⟩
  obtain ⟨h0, h1, h2⟩ := id hab
  refine ⟨rfl, ?_⟩
  have hg : ∀ o, (S.set l o)[l]? = some o := fun o => get_set hl
  have gr : ∀ a' b', Lf a' b' → Gr l S (S.set l (.lst [.int a', .int b'])) := fun a' b' q => ⟨LAt.set ⟨a, b, hl, hab⟩ q, LeX.set⟩
  simp [w_law_pick, startD, dIx_loc hl, dSetL_loc hl, dIx_loc (hg _)]
  by_cases ha : 0 < a
  · refine .inr ⟨ha, by omega, cdiv_of 200 hm hmb (by decide) (by decide), ?_⟩
    have q := fmod_bounds a hm
    exact h _ _ q.1 q.2 (gr _ _ ⟨Int.ediv_nonneg h0 (by omega), h1, h2⟩)
  · have q := fmod_bounds (b * 48271 + 12345) (b := 2147483647) (by decide)
    refine .inl ⟨by omega, ?_, ?_, by omega, ?_⟩
    · exact cmul_of 31 31 (by omega) (by decide) (by decide) (by decide) (by decide)
    · exact cmul_of 31 31 (by omega) (by omega) (by decide) (by decide) (by decide)
    · have q2 := fmod_bounds (((b * 48271 + 12345).fmod 2147483647 * (b * 48271 + 12345).fmod 2147483647).fmod 1999999973) hm
      exact h _ _ q2.1 q2.2 (gr _ _ ⟨h0, q.1, q.2⟩)

def S_law_left : DSp := fun ds S R => ∃ (ns : List Int) (k : Int), ds = [scriptD ns, .int k] ∧ 0 ≤ k ∧ k < 1000000 ∧ ∀ a b, Lf a b → R (.loc S.length) (S ++ [.lst [.int a, .int b]])
theorem sem_law_left : ∀ ds S R, S_law_left ds S R → ds.length = 2 ∧ w_law_left S_law_cell_at (endsD R) (startD 4 ds) S := by
  rintro ds S R ⟨ns, k, rfl, hk, hk2, h⟩
  refine ⟨rfl, ?_⟩
  simp [w_law_left, startD]
  refine ⟨ns, k, rfl, hk, fun i => ?_⟩
  have q := fmod_bounds i (b := 2147483629) (by decide)
  have hkk : 0 ≤ 7919 * k * k ∧ 7919 * k * k ≤ 7919000000000000 := by
    have h1 : 7919 * k * k ≤ 7919 * 1000000 * k := Int.mul_le_mul_of_nonneg_right (by omega) hk
    have h2 : 0 ≤ 7919 * k * k := Int.mul_nonneg (by omega) hk
    omega
  simp
  refine ⟨cmul_of 31 31 (by decide) (by omega) (by decide) (by decide) (by decide), cmul_of 64 31 (by omega) (by omega) (by decide) (by decide) (by decide), cmul_of 80 31 (by omega) (by decide) (by decide) (by decide) (by decide), ?_⟩
  have q2 := fmod_bounds ((i.fmod 2147483629 + 7919 * k * k + 11) * 48271) (b := 2147483647) (by decide)
  refine ⟨ns, 0, rfl, by decide, fun j => ?_⟩
  have hs : 2 ≤ sizeLine := by decide
  have hp : CPow 10 30 := by unfold CPow; decide
  have q3 := fmod_bounds i (b := 1000000000000000000000000000000) (by decide)
  simp
  by_cases hj : j.fmod 2 = 0
  · exact .inr ⟨hj, hp, hs, h _ _ ⟨by decide, q2.1, q2.2⟩⟩
  · exact .inl ⟨hj, hp, hs, h _ _ ⟨q3.1, q2.1, q2.2⟩⟩

def S_law_word : DSp := fun ds S R => ∃ l, ds = [.loc l] ∧ Draw l (fun d => ∃ x : Str, d = .str x ∧ x.length ≤ 60) S R
theorem sem_law_word : ∀ ds S R, S_law_word ds S R → ds.length = 1 ∧ w_law_word S_law_pick (endsD R) (startD 4 ds) S := by
  rintro ds S R ⟨l, rfl, hl, h⟩
  refine ⟨rfl, ?_⟩
  have e37 : Str.length "abcdefghijklmnopqrstuvwxyz0123456789." = 37 := by decide +kernel
  have hz : 37 ≤ sizeLine := by decide
  simp [w_law_word, startD, e37, hz]
  refine ⟨l, 26, rfl, by decide, by decide, hl, fun d1 S1 b1 b2 g1 => ?_⟩
  obtain ⟨c, hc, _⟩ := sign_at e37 b1 (by omega)
  simp [hc, e37, hz]
  refine ⟨by decide, l, 5, rfl, by decide, by decide, g1.at_.le (Le.app _ _), fun d2 S2 b3 b4 g2 => ?_⟩
  have hs2 := g2.get (get_new (S := S1)) (g1.at_.ne (Nat.le_refl _))
  obtain ⟨y, hy, hm⟩ := atI_mem (xs := [D.int 0, D.int 1, D.int 2, D.int 7, D.int 39]) b3 (by simpa using b4)
  simp only [dIx_loc hs2, hy]
  obtain ⟨n, rfl, hn0, hn⟩ : ∃ n : Int, y = .int n ∧ 0 ≤ n ∧ n ≤ 39 := by
    simp at hm
    rcases hm with rfl | rfl | rfl | rfl | rfl <;> exact ⟨_, rfl, by decide, by decide⟩
  simp
  refine ⟨by omega, by omega, ?_⟩
  have gg : Gr l S S2 := (g1.app _).trans g2
  refine forGo_run (fun items τ S' => ∃ x v, τ = [some (.loc l), some (.str "abcdefghijklmnopqrstuvwxyz0123456789."), some (.str x), v] ∧ x.length + items.length ≤ 60 ∧ Gr l S S') ⟨_, _, rfl, ?_, gg⟩ ?_ ?_
  · rw [strLen_one]
    simp [rangeD]
    omega
  · rintro τ S' ⟨x, v, rfl, hx, g⟩
    refine ⟨trivial, ?_⟩
    simp
    exact h _ _ ⟨x, rfl, by simpa using hx⟩ g
  · rintro d r τ S' N ⟨x, v, rfl, hx, g⟩ hN
    refine ⟨trivial, ?_⟩
    simp [e37, hz]
    refine ⟨l, 37, rfl, by decide, by decide, g.at_, fun d3 S3 b5 b6 g3 => ?_⟩
    obtain ⟨c3, hc3, _⟩ := sign_at e37 b5 (by omega)
    simp only [List.length_cons] at hx
    have hsl : sizeLine = 16777216 := sizeLine_eq
    simp [hc3, strLen_one]
    exact ⟨by omega, by omega, hN _ _ ⟨_, _, rfl, by rw [strLen_app, strLen_one]; omega, g.trans g3⟩⟩

def S_law_name : DSp := fun ds S R => ∃ l, ds = [.loc l] ∧ Draw l (fun d => ∃ x : Str, d = .str x ∧ x.length ≤ 60) S R
theorem sem_law_name : ∀ ds S R, S_law_name ds S R → ds.length = 1 ∧ w_law_name S_law_pick (endsD R) (startD 4 ds) S := by
  rintro ds S R ⟨l, rfl, hl, h⟩
  refine ⟨rfl, ?_⟩
  have e37 : Str.length "ABCDEFGHIJKLMNOPQRSTUVWXYZabcdefghijklmnopqrstuvwxyz0123456789" = 62 := by decide +kernel
  have hz : 62 ≤ sizeLine := by decide
  simp [w_law_name, startD, e37, hz]
  refine ⟨l, 26, rfl, by decide, by decide, hl, fun d1 S1 b1 b2 g1 => ?_⟩
  obtain ⟨c, hc, _⟩ := sign_at e37 b1 (by omega)
  simp [hc, e37, hz]
  refine ⟨by decide, l, 5, rfl, by decide, by decide, g1.at_.le (Le.app _ _), fun d2 S2 b3 b4 g2 => ?_⟩
  have hs2 := g2.get (get_new (S := S1)) (g1.at_.ne (Nat.le_refl _))
  obtain ⟨y, hy, hm⟩ := atI_mem (xs := [D.int 0, D.int 0, D.int 1, D.int 2, D.int 11]) b3 (by simpa using b4)
  simp only [dIx_loc hs2, hy]
  obtain ⟨n, rfl, hn0, hn⟩ : ∃ n : Int, y = .int n ∧ 0 ≤ n ∧ n ≤ 39 := by
    simp at hm
    rcases hm with rfl | rfl | rfl | rfl <;> exact ⟨_, rfl, by decide, by decide⟩
  simp
  refine ⟨by omega, by omega, ?_⟩
  have gg : Gr l S S2 := (g1.app _).trans g2
  refine forGo_run (fun items τ S' => ∃ x v, τ = [some (.loc l), some (.str "ABCDEFGHIJKLMNOPQRSTUVWXYZabcdefghijklmnopqrstuvwxyz0123456789"), some (.str x), v] ∧ x.length + items.length ≤ 60 ∧ Gr l S S') ⟨_, _, rfl, ?_, gg⟩ ?_ ?_
  · rw [strLen_one]
    simp [rangeD]
    omega
  · rintro τ S' ⟨x, v, rfl, hx, g⟩
    refine ⟨trivial, ?_⟩
    simp
    exact h _ _ ⟨x, rfl, by simpa using hx⟩ g
  · rintro d r τ S' N ⟨x, v, rfl, hx, g⟩ hN
    refine ⟨trivial, ?_⟩
    simp [e37, hz]
    refine ⟨l, 62, rfl, by decide, by decide, g.at_, fun d3 S3 b5 b6 g3 => ?_⟩
    obtain ⟨c3, hc3, _⟩ := sign_at e37 b5 (by omega)
    simp only [List.length_cons] at hx
    have hsl : sizeLine = 16777216 := sizeLine_eq
    simp [hc3, strLen_one]
    exact ⟨by omega, by omega, hN _ _ ⟨_, _, rfl, by rw [strLen_app, strLen_one]; omega, g.trans g3⟩⟩

def S_law_any : Nat → DSp
  | 0 => fun _ _ _ => False
  | n + 1 => fun ds S R => ∃ (l : Nat) (k : Int), ds = [.loc l, .int k] ∧ 0 ≤ k ∧ k ≤ n ∧ n ≤ 6 ∧ Draw l (fun d => plainD n d = true) S R
theorem sem_law_any : ∀ n ds S R, S_law_any (n + 1) ds S R → ds.length = 2 ∧ w_law_any S_law_pick S_law_name S_law_word (S_law_any n) (endsD R) (startD 5 ds) S := by
  rintro n ds S R ⟨l, k, rfl, hk, hkn, hn, hl, h⟩
  refine ⟨rfl, ?_⟩
  simp [w_law_any, startD]
  refine ⟨l, 6, rfl, by decide, by decide, hl, fun way S1 b1 b2 g1 => ?_⟩
  simp
  by_cases hw : way < 2
  · refine .inr ⟨hw, l, rfl, g1.at_, fun d S2 ⟨x, e, _⟩ g2 => h _ _ (by subst e; simp [plainD]) (g1.trans g2)⟩
  refine .inl ⟨by omega, ?_⟩
  by_cases hk0 : k = 0
  · refine .inr ⟨hk0, l, rfl, g1.at_, fun d S2 ⟨x, e, _⟩ g2 => h _ _ (by subst e; simp [plainD]) (g1.trans g2)⟩
  refine .inl ⟨hk0, ?_⟩
  have hp : CPow 10 40 := by unfold CPow; decide
  have hp9 : CPow 10 9 := by unfold CPow; decide
  have hz : 7 ≤ sizeLine := by decide
  have hz5 : 5 ≤ sizeLine := by decide
  by_cases hw2 : way = 2
  · refine .inr ⟨hw2, ?_⟩
    simp [hp, hp9, hz5]
    refine ⟨l, 1000000000, rfl, by decide, by decide, g1.at_, fun d2 S2 b3 b4 g2 => ?_⟩
    refine ⟨l, 5, rfl, by decide, by decide, g2.at_.le (Le.app _ _), fun d3 S3 b5 b6 g3 => ?_⟩
    have hs3 := g3.get (get_new (S := S2)) (g2.at_.ne (Nat.le_refl _))
    obtain ⟨y, hy, hm⟩ := atI_mem b5 (by simpa using b6) (xs := [D.int 0, D.int (-3), D.int 9999999999999999999999999999999999999999, D.int (-9999999999999999999999999999999999999999), D.int d2])
    simp only [dIx_loc hs3, hy]
    refine ⟨_, rfl, h _ _ ?_ ((g1.trans (g2.app _)).trans g3)⟩
    simp at hm
    rcases hm with rfl | rfl | rfl | rfl | rfl <;> simp [plainD]
  · refine .inl ⟨hw2, ?_⟩
    simp [hz]
    obtain ⟨y, hy, hm⟩ := atI_mem (m := k) (xs := [D.int 2, D.int 2, D.int 2, D.int 2, D.int 2, D.int 3, D.int 5]) hk (by simp; omega)
    simp only [dIx_loc get_new, hy]
    obtain ⟨m, rfl, hm0, hm5⟩ : ∃ m : Int, y = .int m ∧ 0 < m ∧ m ≤ 5 := by
      simp at hm
      rcases hm with rfl | rfl | rfl <;> exact ⟨_, rfl, by decide, by decide⟩
    refine ⟨_, rfl, l, m, rfl, hm0, by have : (2:Nat) ^ 200 = 1606938044258990275541962092341162602522202993782792835301376 := by decide
                                       omega, g1.at_.le (Le.app _ _), fun j S2 b3 b4 g2 => ?_⟩
    refine ⟨l, rfl, g2.at_, fun d S3 ⟨x, e, hx⟩ g3 => ⟨by decide, j, rfl, by omega, by omega, ?_⟩⟩
    subst e
    have g5 := ((g1.app _).trans g2).trans g3
    refine lc_map (fun _ y => plainD (n - 1) y = true) (fun S' => Gr l S S') g5 (fun _ _ => trivial) (by have : sizeLine = 16777216 := sizeLine_eq; simp; omega) ?_ ?_
    · intro d S' N hd g6 hN
      simp [wipeD]
      match n with
      | 0 => omega
      | n + 1 =>
      exact ⟨l, k - 1, rfl, by omega, by omega, by omega, g6.at_, fun d S7 p g7 => hN _ _ p (g6.trans g7)⟩
    · intro ys S' g6 a
      have al := a.length
      simp at al
      refine ⟨ys, seqD_loc get_new, by have : sizeLine = 16777216 := sizeLine_eq; omega, h _ _ ?_ (g6.app _)⟩
      match n with
      | 0 => omega
      | n + 1 =>
      refine plainD_tup.mpr ⟨by simp; omega, ?_⟩
      simp only [plainsD, plainD, Bool.true_and]
      exact plains_of (All2.all (P := fun d => plainD n d = true) (fun _ _ q => q) a)

def S_law_alike : Nat → DSp
  | 0 => fun _ _ _ => False
  | n + 1 => fun ds S R => ∃ d c, ds = [d, c] ∧ plainD n d = true ∧ plainD n c = true ∧ n ≤ 90 ∧ Pure (.bl (decide (d = c))) S R
theorem sem_law_alike : ∀ n ds S R, S_law_alike (n + 1) ds S R → ds.length = 2 ∧ w_law_alike (S_law_alike n) (endsD R) (startD 5 ds) S := by
  rintro n ds S R ⟨d, c, rfl, hd, hc, hn, h⟩
  refine ⟨rfl, ?_⟩
  have h0 := h.here
  cases c with
  | non => cases d with
    | tup xs => simpa [w_law_alike, startD] using h0
    | non => simpa [w_law_alike, startD] using h0
    | int _ => simpa [w_law_alike, startD] using h0
    | str _ => simpa [w_law_alike, startD] using h0
    | bl _ => simp [plainD] at hd
    | fls _ => simp [plainD] at hd
    | loc _ => simp [plainD] at hd
  | int m => cases d with
    | tup xs => simpa [w_law_alike, startD] using h0
    | non => simpa [w_law_alike, startD] using h0
    | int i =>
      by_cases e : i = m
      · simpa [w_law_alike, startD, e] using h0
      · simpa [w_law_alike, startD, e] using h0
    | str _ => simpa [w_law_alike, startD] using h0
    | bl _ => simp [plainD] at hd
    | fls _ => simp [plainD] at hd
    | loc _ => simp [plainD] at hd
  | str y => cases d with
    | tup xs => simpa [w_law_alike, startD] using h0
    | non => simpa [w_law_alike, startD] using h0
    | int _ => simpa [w_law_alike, startD] using h0
    | str x =>
      by_cases e : x = y
      · simpa [w_law_alike, startD, e] using h0
      · simpa [w_law_alike, startD, e] using h0
    | bl _ => simp [plainD] at hd
    | fls _ => simp [plainD] at hd
    | loc _ => simp [plainD] at hd
  | tup ys => cases d with
    | tup xs =>
      cases n with
      | zero => simp [plainD] at hd
      | succ n =>
        obtain ⟨hdl, hd⟩ := plainD_tup.mp hd
        obtain ⟨_, hc⟩ := plainD_tup.mp hc
        simp [w_law_alike, startD, and_assoc]
        by_cases hl : xs.length = ys.length
        · refine .inr ⟨by exact_mod_cast hl, ?_⟩
          refine lcGo_run (fun items acc S' => ∃ us ws bs, items = zipD us ws ∧ plainsD n us = true ∧ plainsD n ws = true ∧ us.length = ws.length ∧ us.length + acc.length ≤ xs.length ∧ Le S S' ∧ acc = bs.map D.bl ∧ (bs.all id = true ∧ us = ws ↔ xs = ys)) ⟨xs, ys, [], rfl, hd, hc, hl, by simp, Le.refl _, rfl, by simp⟩ ?_ ?_
          · rintro acc S' ⟨us, ws, bs, e, h1, h2, h3, h4, h5, rfl, h6⟩
            obtain ⟨rfl, rfl⟩ := zipD_nil e h3
            refine ⟨trivial, _, ⟨_, lstD_loc get_new⟩, _, blsD_map bs, ?_⟩
            have e2 : bs.all id = decide (D.tup xs = D.tup ys) := by
              rw [Bool.eq_iff_iff, decide_eq_true_iff]
              simpa using h6
            rw [e2]
            exact h _ (h5.trans (Le.app _ _))
          · rintro d r acc S' N ⟨us, ws, bs, e, h1, h2, h3, h4, h5, rfl, h6⟩ hN
            obtain ⟨u, us, w, ws, rfl, rfl, rfl, rfl⟩ := zipD_cons e
            simp only [plainsD, Bool.and_eq_true] at h1 h2
            simp at h3 h4
            refine ⟨trivial, ?_⟩
            simp [wipeD, and_assoc]
            refine ⟨_, _, rfl, h1.1, h2.1, by omega, fun S2 y => ⟨by have : sizeLine = 16777216 := sizeLine_eq; omega, hN _ _ ⟨us, ws, bs ++ [decide (u = w)], rfl, h1.2, h2.2, h3, by simp; omega, h5.trans y, by simp, ?_⟩⟩⟩
            rw [← h6]
            by_cases q : u = w <;> simp [q]
        · refine .inl ⟨by exact_mod_cast hl, ?_⟩
          have e2 : decide (D.tup xs = D.tup ys) = false := decide_eq_false fun q => hl (by cases q; rfl)
          rwa [e2] at h0
    | non => simpa [w_law_alike, startD] using h0
    | int _ => simpa [w_law_alike, startD] using h0
    | str _ => simpa [w_law_alike, startD] using h0
    | bl _ => simp [plainD] at hd
    | fls _ => simp [plainD] at hd
    | loc _ => simp [plainD] at hd
  | bl _ => simp [plainD] at hc
  | fls _ => simp [plainD] at hc
  | loc _ => simp [plainD] at hc

def S_shape_of : DSp := fun ds S R => ∃ x xs, ds = [.tup (x :: xs)] ∧ Pure (.tup [x, .int xs.length]) S R
theorem sem_shape_of : ∀ ds S R, S_shape_of ds S R → ds.length = 1 ∧ w_shape_of (endsD R) (startD 1 ds) S := by
  rintro ds S R ⟨x, xs, rfl, h⟩
  refine ⟨rfl, ?_⟩
  have hz : 2 ≤ sizeLine := by decide
  simpa [w_shape_of, startD, hz] using h.here
def S_rule_shape : DSp := fun ds S R => ∃ x xs g rest, ds = [.tup (.tup (x :: xs) :: g :: rest)] ∧ Pure (.tup [x, .int (xs.length + if isNonD g then 0 else 1)]) S R
theorem sem_rule_shape : ∀ ds S R, S_rule_shape ds S R → ds.length = 1 ∧ w_rule_shape S_shape_of (endsD R) (startD 3 ds) S := by
  rintro ds S R ⟨x, xs, g, rest, rfl, h⟩
  refine ⟨rfl, ?_⟩
  have hz : 2 ≤ sizeLine := by decide
  simp [w_rule_shape, startD, hz]
  refine ⟨x, xs, rfl, fun S' y => ?_⟩
  simp [hz]
  have := h S' y
  cases e : isNonD g <;> simpa [e] using this

def S_law : DSp := fun ds S R => ∃ ns, ds = [scriptD ns] ∧ ns.length ≤ 63 ∧ ∀ S', R (.bl true) S'
theorem sem_law : ∀ ds S R, S_law ds S R → ds.length = 1 ∧ w_law S_law_left S_law_word S_law_pick (S_law_any 7) (S_law_alike 9) S_shape_of S_rule_shape (endsD R) (startD 8 ds) S := by
  rintro ds S R ⟨ns, rfl, hns, h⟩
  refine ⟨rfl, ?_⟩
  simp [w_law, startD, scriptD]
  refine ⟨by omega, by omega, ?_⟩
  refine for_keep (fun τ S' => ∃ a b c d e f g, τ = [some (scriptD ns), a, b, c, d, e, f, g]) ⟨_, _, _, _, _, _, _, rfl⟩ (fun _ _ _ => trivial) ?_ ?_
  · rintro τ S' ⟨a, b, c, d, e, f, g, rfl⟩
    exact h _
  · rintro x τ S0 N hx ⟨a, b, c, d, e, f, g, rfl⟩ hN
    obtain ⟨k, rfl, hk1, hk2⟩ := rangeD_mem hx
    simp
    have hz1 : 1 ≤ sizeLine := by decide
    have hz2 : 2 ≤ sizeLine := by decide
    have hz3 : 3 ≤ sizeLine := by decide
    have hz4 : 4 ≤ sizeLine := by decide
    refine ⟨ns, k, rfl, by omega, by omega, fun x1 x2 hx12 => ?_⟩
    have hl0 : LAt S0.length (S0 ++ [.lst [.int x1, .int x2]]) := ⟨_, _, get_new, hx12⟩
    generalize S0.length = l at hl0 ⊢
    simp [hz1]
    refine ⟨l, rfl, hl0, fun wd S1 ⟨x, e, hx⟩ g1 => ⟨l, 5, rfl, by decide, by decide, g1.at_, fun j S2 b1 b2 g2 => ?_⟩⟩
    subst e
    simp
    refine ⟨by omega, by omega, ?_⟩
    refine lc_map (fun _ y => plainD 6 y = true) (fun S' => Gr l S2 S') (Gr.refl g2.at_) (fun _ _ => trivial) (by have : sizeLine = 16777216 := sizeLine_eq; simp; omega) ?_ ?_
    · intro d S' N hd g6 hN
      simp [wipeD]
      exact ⟨l, 5, rfl, by decide, by decide, by decide, g6.at_, fun d S7 p g7 => hN _ _ p (g6.trans g7)⟩
    intro ys S3 g3 hys
    have al := hys.length
    simp at al
    have hp : plainsD 6 ys = true := plains_of (All2.all (P := fun d => plainD 6 d = true) (fun _ _ q => q) hys)
    simp [seqD_loc get_new]
    have hsz : sizeLine = 16777216 := sizeLine_eq
    refine ⟨by omega, _, _, rfl, fun S4 y4 => ⟨hz2, _, _, rfl, by simp [plainD, plainsD], by simp [plainD, plainsD], by decide, fun S5 y5 => ?_⟩⟩
    refine .inr ⟨by simp, hz3, l, 4, rfl, by decide, by decide, ?_, fun i S6 b3 b4 g6 => ⟨i, rfl, ?_⟩⟩
    · exact ((g3.app _).le (y4.trans y5)).at_.le (Le.app _ _)
    have hs6 := g6.get (get_new (S := S5)) ((((g3.app _).le (y4.trans y5)).at_.ne (Nat.le_refl _)))
    simp only [dSl_loc hs6]
    refine ⟨_, seqD_loc get_new, ?_⟩
    generalize hcut : cutD [D.int 7, D.tup [D.str (Str.ofString "b")], D.str (Str.ofString "X")] none (some i) = xs
    have hxl : xs.length ≤ 3 := by
      rw [← hcut]
      simp [cutD]
      omega
    refine ⟨by omega, hz2, hz3, _, _, _, _, rfl, fun S7 y7 => ⟨hz2, _, _, rfl, by simp [plainD, plainsD], by simp [plainD, plainsD], by decide, fun S8 y8 => ?_⟩⟩
    refine .inr ⟨by simp, hz2, hz4, _, _, itemsD_loc get_new, ?_⟩
    have q8 := get_new (S := S8) (o := .lst [D.tup [D.str (Str.ofString "count")], D.tup [D.str (Str.ofString "sum"), D.str (Str.ofString "X")], D.tup [D.str (Str.ofString "least"), D.str (Str.ofString "X")], D.tup [D.str (Str.ofString "most"), D.str (Str.ofString "X")]])
    generalize List.length S8 = l8 at q8 ⊢
    refine for_keep (fun τ S' => (∃ a b c e f, τ = [some (scriptD ns), a, b, c, some (D.tup (D.str x :: xs)), some e, f, g]) ∧ S'[l8]? = some (.lst [D.tup [D.str (Str.ofString "count")], D.tup [D.str (Str.ofString "sum"), D.str (Str.ofString "X")], D.tup [D.str (Str.ofString "least"), D.str (Str.ofString "X")], D.tup [D.str (Str.ofString "most"), D.str (Str.ofString "X")]])) ⟨⟨_, _, _, _, _, rfl⟩, q8⟩ (fun _ _ q => q.2) ?_ ?_
    · rintro τ S' ⟨⟨a, b, c, e, f, rfl⟩, _⟩
      exact hN _ _ ⟨_, _, _, _, _, _, _, rfl⟩
    · rintro d τ S' M hd ⟨⟨a, b, c, e, f, rfl⟩, qs⟩ hM
      simp [hz3, hz2]
      refine ⟨_, _, _, _, rfl, fun S9 y9 => ⟨_, _, rfl, by simp [plainD, plainsD], by simp [plainD, plainsD], by decide, fun S10 y10 => ?_⟩⟩
      refine .inr ⟨?_, hM _ _ ⟨⟨_, _, _, _, _, rfl⟩, y10 _ _ (y9 _ _ qs)⟩⟩
      simp at hd
      rcases hd with rfl | rfl | rfl | rfl <;> simp

def top (i : Nat) : Stmt := PySem.Challenge.pw_reasonkeep_k13_shapes.main.body.getD i (.Pass ⟨0, 0, 0, 0⟩)
structure Txt (mg : Str → Option Value) : Prop where
  b_all : mg "all" = none
  b_bool : mg "bool" = none
  b_dict : mg "dict" = none
  b_int : mg "int" = none
  b_isinstance : mg "isinstance" = none
  b_len : mg "len" = none
  b_list : mg "list" = none
  b_max : mg "max" = none
  b_min : mg "min" = none
  b_range : mg "range" = none
  b_str : mg "str" = none
  b_tuple : mg "tuple" = none
  b_zip : mg "zip" = none
section
variable {P : Program} {w : World} {K : PySem.W.Frag} {mg : Str → Option Value} {base : Heap}
abbrev s_shape_of : Stmt := top 1
abbrev n_shape_of : List Str := ["atom"]
theorem sc_shape_of : FnScope n_shape_of ["atom"] (defScope s_shape_of) := ⟨rfl, rfl, rfl, by decide +kernel, rfl, by decide +kernel, by decide +kernel⟩
theorem ok_shape_of (T : Txt mg) {f : Addr} {fd : FuncData} (F : Fun K "shape_of" "shape_of" s_shape_of f fd) (hf : mg "shape_of" = some (.ref f)) (hb : Binds K fd ["atom"] []) {k : Nat} {sp : DSp}
    (sem : ∀ ds S R, sp ds S R → ds.length = 1 ∧ w_shape_of (endsD R) (startD 1 ds) S) : FnD P w K mg base (k + 1) "shape_of" sp := by
  refine fn_mk (N := n_shape_of) (ps := ["atom"]) (ws := w_shape_of) F sc_shape_of hf hb (by decide) (fun ds S R h => (sem ds S R h).1) (fun cdv A outer s H E hr => ?_) (fun ds S R h => (sem ds S R h).2)
  have nd : (n_shape_of).Nodup := sc_shape_of.nd
  have hu := room_units hr
  unfold w_shape_of
  exact (ds_one (ds_ret (de_tup (da_cons (de_ix od_ix (de_var 0) de_int) (da_cons (de_op od_sub (de_callB cd_len T.b_len rfl (by decide +kernel) (da_cons (de_var 0) da_nil)) de_int) da_nil)))))
abbrev s_rule_shape : Stmt := top 2
abbrev n_rule_shape : List Str := ["rule", "word", "many"]
theorem sc_rule_shape : FnScope n_rule_shape ["rule"] (defScope s_rule_shape) := ⟨rfl, rfl, rfl, by decide +kernel, rfl, by decide +kernel, by decide +kernel⟩
theorem ok_rule_shape (T : Txt mg) {f : Addr} {fd : FuncData} (F : Fun K "rule_shape" "rule_shape" s_rule_shape f fd) (hf : mg "rule_shape" = some (.ref f)) (hb : Binds K fd ["rule"] []) {k : Nat} {sp_shape_of : DSp}
    (G_shape_of : FnD P w K mg base k "shape_of" sp_shape_of) {sp : DSp}
    (sem : ∀ ds S R, sp ds S R → ds.length = 1 ∧ w_rule_shape sp_shape_of (endsD R) (startD 3 ds) S) : FnD P w K mg base (k + 1) "rule_shape" sp := by
  refine fn_mk (N := n_rule_shape) (ps := ["rule"]) (ws := w_rule_shape sp_shape_of) F sc_rule_shape hf hb (by decide) (fun ds S R h => (sem ds S R h).1) (fun cdv A outer s H E hr => ?_) (fun ds S R h => (sem ds S R h).2)
  have nd : (n_rule_shape).Nodup := sc_rule_shape.nd
  have hu := room_units hr
  unfold w_rule_shape
  exact (ds_cons (ds_asg (de_call G_shape_of (hr.mono (by omega)) rfl (da_cons (de_ix od_ix (de_var 0) de_int) da_nil)) (dg_tup rfl (dgs_cons (dg_name nd) (dgs_cons (dg_name nd) dgs_nil))))
  (ds_cons (ds_if (dt_cmp od_isNotN (de_ix od_ix (de_var 0) de_int) de_non)
    (ds_one (ds_aug nd de_int oi_add))
    ds_nil)
  (ds_one (ds_ret (de_tup (da_cons (de_var 1) (da_cons (de_var 2) da_nil)))))))
abbrev s_law_cell_at : Stmt := top 4
abbrev n_law_cell_at : List Str := ["script", "k"]
theorem sc_law_cell_at : FnScope n_law_cell_at ["script", "k"] (defScope s_law_cell_at) := ⟨rfl, rfl, rfl, by decide +kernel, rfl, by decide +kernel, by decide +kernel⟩
theorem ok_law_cell_at (T : Txt mg) {f : Addr} {fd : FuncData} (F : Fun K "_law_cell_at" "_law_cell_at" s_law_cell_at f fd) (hf : mg "_law_cell_at" = some (.ref f)) (hb : Binds K fd ["script", "k"] []) {k : Nat} {sp : DSp}
    (sem : ∀ ds S R, sp ds S R → ds.length = 2 ∧ w_law_cell_at (endsD R) (startD 2 ds) S) : FnD P w K mg base (k + 1) "_law_cell_at" sp := by
  refine fn_mk (N := n_law_cell_at) (ps := ["script", "k"]) (ws := w_law_cell_at) F sc_law_cell_at hf hb (by decide) (fun ds S R h => (sem ds S R h).1) (fun cdv A outer s H E hr => ?_) (fun ds S R h => (sem ds S R h).2)
  have nd : (n_law_cell_at).Nodup := sc_law_cell_at.nd
  have hu := room_units hr
  unfold w_law_cell_at
  exact (ds_cons (ds_if (dt_cmp od_ltI (de_var 1) (de_callB cd_len T.b_len rfl (by decide +kernel) (da_cons (de_var 0) da_nil)))
    (ds_one (ds_ret (de_ix od_ix (de_var 0) (de_var 1))))
    ds_nil)
  (ds_one (ds_ret de_int)))
abbrev s_law_left : Stmt := top 5
abbrev n_law_left : List Str := ["script", "k", "cell", "seed"]
theorem sc_law_left : FnScope n_law_left ["script", "k"] (defScope s_law_left) := ⟨rfl, rfl, rfl, by decide +kernel, rfl, by decide +kernel, by decide +kernel⟩
theorem ok_law_left (T : Txt mg) {f : Addr} {fd : FuncData} (F : Fun K "_law_left" "_law_left" s_law_left f fd) (hf : mg "_law_left" = some (.ref f)) (hb : Binds K fd ["script", "k"] []) {k : Nat} {sp_law_cell_at : DSp}
    (G_law_cell_at : FnD P w K mg base k "_law_cell_at" sp_law_cell_at) {sp : DSp}
    (sem : ∀ ds S R, sp ds S R → ds.length = 2 ∧ w_law_left sp_law_cell_at (endsD R) (startD 4 ds) S) : FnD P w K mg base (k + 1) "_law_left" sp := by
  refine fn_mk (N := n_law_left) (ps := ["script", "k"]) (ws := w_law_left sp_law_cell_at) F sc_law_left hf hb (by decide) (fun ds S R h => (sem ds S R h).1) (fun cdv A outer s H E hr => ?_) (fun ds S R h => (sem ds S R h).2)
  have nd : (n_law_left).Nodup := sc_law_left.nd
  have hu := room_units hr
  unfold w_law_left
  exact (ds_cons (ds_set nd (de_call G_law_cell_at (hr.mono (by omega)) rfl (da_cons (de_var 0) (da_cons (de_var 1) da_nil))))
  (ds_cons (ds_set nd (de_op od_mod (de_op od_mul (de_op od_add (de_op od_add (de_op od_mod (de_var 2) de_int) (de_op od_mul (de_op od_mul de_int (de_var 1)) (de_var 1))) de_int) de_int) de_int))
  (ds_cons (ds_if (dt_cmp (od_eq hu) (de_op od_mod (de_call G_law_cell_at (hr.mono (by omega)) rfl (da_cons (de_var 0) (da_cons de_int da_nil))) de_int) de_int)
    (ds_one (ds_set nd de_int))
    ds_nil)
  (ds_one (ds_ret (de_lst (da_cons (de_op od_mod (de_var 2) (de_op od_pow de_int de_int)) (da_cons (de_var 3) da_nil))))))))
abbrev s_law_pick : Stmt := top 6
abbrev n_law_pick : List Str := ["left", "many", "digit"]
theorem sc_law_pick : FnScope n_law_pick ["left", "many"] (defScope s_law_pick) := ⟨rfl, rfl, rfl, by decide +kernel, rfl, by decide +kernel, by decide +kernel⟩
theorem ok_law_pick (T : Txt mg) {f : Addr} {fd : FuncData} (F : Fun K "_law_pick" "_law_pick" s_law_pick f fd) (hf : mg "_law_pick" = some (.ref f)) (hb : Binds K fd ["left", "many"] []) {k : Nat} {sp : DSp}
    (sem : ∀ ds S R, sp ds S R → ds.length = 2 ∧ w_law_pick (endsD R) (startD 3 ds) S) : FnD P w K mg base (k + 1) "_law_pick" sp := by
  refine fn_mk (N := n_law_pick) (ps := ["left", "many"]) (ws := w_law_pick) F sc_law_pick hf hb (by decide) (fun ds S R h => (sem ds S R h).1) (fun cdv A outer s H E hr => ?_) (fun ds S R h => (sem ds S R h).2)
  have nd : (n_law_pick).Nodup := sc_law_pick.nd
  have hu := room_units hr
  unfold w_law_pick
  exact (ds_cons (ds_if (dt_cmp od_gt (de_ix od_ix (de_var 0) de_int) de_int)
    (ds_cons (ds_set nd (de_op od_mod (de_ix od_ix (de_var 0) de_int) (de_var 1)))
  (ds_cons (ds_asg (de_op od_div (de_ix od_ix (de_var 0) de_int) (de_var 1)) (dg_sub (de_var 0) de_int sd_setL))
  (ds_one (ds_ret (de_var 2)))))
    ds_nil)
  (ds_cons (ds_asg (de_op od_mod (de_op od_add (de_op od_mul (de_ix od_ix (de_var 0) de_int) de_int) de_int) de_int) (dg_sub (de_var 0) de_int sd_setL))
  (ds_one (ds_ret (de_op od_mod (de_op od_mod (de_op od_mul (de_ix od_ix (de_var 0) de_int) (de_ix od_ix (de_var 0) de_int)) de_int) (de_var 1))))))
abbrev s_law_word : Stmt := top 7
abbrev n_law_word : List Str := ["left", "signs", "word", "k"]
theorem sc_law_word : FnScope n_law_word ["left"] (defScope s_law_word) := ⟨rfl, rfl, rfl, by decide +kernel, rfl, by decide +kernel, by decide +kernel⟩
theorem ok_law_word (T : Txt mg) {f : Addr} {fd : FuncData} (F : Fun K "_law_word" "_law_word" s_law_word f fd) (hf : mg "_law_word" = some (.ref f)) (hb : Binds K fd ["left"] []) {k : Nat} {sp_law_pick : DSp}
    (G_law_pick : FnD P w K mg base k "_law_pick" sp_law_pick) {sp : DSp}
    (sem : ∀ ds S R, sp ds S R → ds.length = 1 ∧ w_law_word sp_law_pick (endsD R) (startD 4 ds) S) : FnD P w K mg base (k + 1) "_law_word" sp := by
  refine fn_mk (N := n_law_word) (ps := ["left"]) (ws := w_law_word sp_law_pick) F sc_law_word hf hb (by decide) (fun ds S R h => (sem ds S R h).1) (fun cdv A outer s H E hr => ?_) (fun ds S R h => (sem ds S R h).2)
  have nd : (n_law_word).Nodup := sc_law_word.nd
  have hu := room_units hr
  unfold w_law_word
  exact (ds_cons (ds_set nd de_str)
  (ds_cons (ds_set nd (de_ix od_ix (de_var 1) (de_call G_law_pick (hr.mono (by omega)) rfl (da_cons (de_var 0) (da_cons de_int da_nil)))))
  (ds_cons (ds_for PassesOwn.never rfl (di_range1 T.b_range rfl (da_cons (de_ix od_ix (de_lst (da_cons de_int (da_cons de_int (da_cons de_int (da_cons de_int (da_cons de_int da_nil)))))) (de_call G_law_pick (hr.mono (by omega)) rfl (da_cons (de_var 0) (da_cons de_int da_nil)))) da_nil)) (dg_name nd)
    (ds_one (ds_set nd (de_op od_add (de_var 2) (de_ix od_ix (de_var 1) (de_call G_law_pick (hr.mono (by omega)) rfl (da_cons (de_var 0) (da_cons de_int da_nil))))))))
  (ds_one (ds_ret (de_var 2))))))
abbrev s_law_name : Stmt := top 8
abbrev n_law_name : List Str := ["left", "signs", "name", "k"]
theorem sc_law_name : FnScope n_law_name ["left"] (defScope s_law_name) := ⟨rfl, rfl, rfl, by decide +kernel, rfl, by decide +kernel, by decide +kernel⟩
theorem ok_law_name (T : Txt mg) {f : Addr} {fd : FuncData} (F : Fun K "_law_name" "_law_name" s_law_name f fd) (hf : mg "_law_name" = some (.ref f)) (hb : Binds K fd ["left"] []) {k : Nat} {sp_law_pick : DSp}
    (G_law_pick : FnD P w K mg base k "_law_pick" sp_law_pick) {sp : DSp}
    (sem : ∀ ds S R, sp ds S R → ds.length = 1 ∧ w_law_name sp_law_pick (endsD R) (startD 4 ds) S) : FnD P w K mg base (k + 1) "_law_name" sp := by
  refine fn_mk (N := n_law_name) (ps := ["left"]) (ws := w_law_name sp_law_pick) F sc_law_name hf hb (by decide) (fun ds S R h => (sem ds S R h).1) (fun cdv A outer s H E hr => ?_) (fun ds S R h => (sem ds S R h).2)
  have nd : (n_law_name).Nodup := sc_law_name.nd
  have hu := room_units hr
  unfold w_law_name
  exact (ds_cons (ds_set nd de_str)
  (ds_cons (ds_set nd (de_ix od_ix (de_var 1) (de_call G_law_pick (hr.mono (by omega)) rfl (da_cons (de_var 0) (da_cons de_int da_nil)))))
  (ds_cons (ds_for PassesOwn.never rfl (di_range1 T.b_range rfl (da_cons (de_ix od_ix (de_lst (da_cons de_int (da_cons de_int (da_cons de_int (da_cons de_int (da_cons de_int da_nil)))))) (de_call G_law_pick (hr.mono (by omega)) rfl (da_cons (de_var 0) (da_cons de_int da_nil)))) da_nil)) (dg_name nd)
    (ds_one (ds_set nd (de_op od_add (de_var 2) (de_ix od_ix (de_var 1) (de_call G_law_pick (hr.mono (by omega)) rfl (da_cons (de_var 0) (da_cons de_int da_nil))))))))
  (ds_one (ds_ret (de_var 2))))))
abbrev s_law_any : Stmt := top 9
abbrev n_law_any : List Str := ["left", "deep", "way", "many", "k"]
theorem sc_law_any : FnScope n_law_any ["left", "deep"] (defScope s_law_any) := ⟨rfl, rfl, rfl, by decide +kernel, rfl, by decide +kernel, by decide +kernel⟩
theorem ok_law_any (T : Txt mg) {f : Addr} {fd : FuncData} (F : Fun K "_law_any" "_law_any" s_law_any f fd) (hf : mg "_law_any" = some (.ref f)) (hb : Binds K fd ["left", "deep"] []) {k : Nat} {sp_law_pick sp_law_name sp_law_word sp_law_any : DSp}
    (G_law_pick : FnD P w K mg base k "_law_pick" sp_law_pick)
    (G_law_name : FnD P w K mg base k "_law_name" sp_law_name)
    (G_law_word : FnD P w K mg base k "_law_word" sp_law_word)
    (G_law_any : FnD P w K mg base k "_law_any" sp_law_any) {sp : DSp}
    (sem : ∀ ds S R, sp ds S R → ds.length = 2 ∧ w_law_any sp_law_pick sp_law_name sp_law_word sp_law_any (endsD R) (startD 5 ds) S) : FnD P w K mg base (k + 1) "_law_any" sp := by
  refine fn_mk (N := n_law_any) (ps := ["left", "deep"]) (ws := w_law_any sp_law_pick sp_law_name sp_law_word sp_law_any) F sc_law_any hf hb (by decide) (fun ds S R h => (sem ds S R h).1) (fun cdv A outer s H E hr => ?_) (fun ds S R h => (sem ds S R h).2)
  have nd : (n_law_any).Nodup := sc_law_any.nd
  have hu := room_units hr
  unfold w_law_any
  exact (ds_cons (ds_set nd (de_call G_law_pick (hr.mono (by omega)) rfl (da_cons (de_var 0) (da_cons de_int da_nil))))
  (ds_cons (ds_if (PW.pt (dw_or (dt_cmp od_ltI (de_var 2) de_int) (dw_or1 (dt_cmp (od_eq hu) (de_var 1) de_int))))
    (ds_one (ds_ret (de_call G_law_name (hr.mono (by omega)) rfl (da_cons (de_var 0) da_nil))))
    ds_nil)
  (ds_cons (ds_if (dt_cmp (od_eq hu) (de_var 2) de_int)
    (ds_one (ds_ret (de_ix od_ix (de_lst (da_cons de_int (da_cons (de_neg de_int) (da_cons (de_op od_sub (de_op od_pow de_int de_int) de_int) (da_cons (de_op od_sub de_int (de_op od_pow de_int de_int)) (da_cons (de_call G_law_pick (hr.mono (by omega)) rfl (da_cons (de_var 0) (da_cons (de_op od_pow de_int de_int) da_nil))) da_nil)))))) (de_call G_law_pick (hr.mono (by omega)) rfl (da_cons (de_var 0) (da_cons de_int da_nil))))))
    ds_nil)
  (ds_cons (ds_set nd (de_call G_law_pick (hr.mono (by omega)) rfl (da_cons (de_var 0) (da_cons (de_ix od_ix (de_lst (da_cons de_int (da_cons de_int (da_cons de_int (da_cons de_int (da_cons de_int (da_cons de_int (da_cons de_int da_nil)))))))) (de_var 1)) da_nil))))
  (ds_one (ds_ret (de_op od_add (de_tup (da_cons (de_call G_law_word (hr.mono (by omega)) rfl (da_cons (de_var 0) da_nil)) da_nil)) (de_callT cd_tuple T.b_tuple rfl (by decide +kernel) (da_cons (de_lc (own := [("k", 4)]) (g := (gName 4)) (own_name (by decide)) rfl nd (di_range1 T.b_range rfl (da_cons (de_var 3) da_nil)) (blkOk_by (own := [("k", 4)]) (N := n_law_any) (sc := (defScope s_law_any)) (by decide +kernel)) (fun _ _ _ _ _ => (pg_nm nd)) (fun _ _ _ _ _ => dts_nil) (fun _ _ _ _ _ => (de_call G_law_any (hr.mono (by omega)) rfl (da_cons (de_var 0) (da_cons (de_op od_sub (de_var 1) de_int) da_nil))))) da_nil)))))))))
abbrev s_law_alike : Stmt := top 10
abbrev n_law_alike : List Str := ["found", "due", "name", "one", "other"]
theorem sc_law_alike : FnScope n_law_alike ["found", "due"] (defScope s_law_alike) := ⟨rfl, rfl, rfl, by decide +kernel, rfl, by decide +kernel, by decide +kernel⟩
theorem ok_law_alike (T : Txt mg) {f : Addr} {fd : FuncData} (F : Fun K "_law_alike" "_law_alike" s_law_alike f fd) (hf : mg "_law_alike" = some (.ref f)) (hb : Binds K fd ["found", "due"] []) {k : Nat} {sp_law_alike : DSp}
    (G_law_alike : FnD P w K mg base k "_law_alike" sp_law_alike) {sp : DSp}
    (sem : ∀ ds S R, sp ds S R → ds.length = 2 ∧ w_law_alike sp_law_alike (endsD R) (startD 5 ds) S) : FnD P w K mg base (k + 1) "_law_alike" sp := by
  refine fn_mk (N := n_law_alike) (ps := ["found", "due"]) (ws := w_law_alike sp_law_alike) F sc_law_alike hf hb (by decide) (fun ds S R h => (sem ds S R h).1) (fun cdv A outer s H E hr => ?_) (fun ds S R h => (sem ds S R h).2)
  have nd : (n_law_alike).Nodup := sc_law_alike.nd
  have hu := room_units hr
  unfold w_law_alike
  exact (ds_cons (ds_if (dt_cmp od_isN (de_var 1) de_non)
    (ds_one (ds_ret (de_cmp od_isN (de_var 0) de_non)))
    ds_nil)
  (ds_cons (ds_if (dt_truth (de_isi T.b_isinstance rfl T.b_bool rfl (by decide +kernel) (de_var 1)))
    (ds_one (ds_ret (de_and (de_isi T.b_isinstance rfl T.b_bool rfl (by decide +kernel) (de_var 0)) (de_one (de_cmp (od_eq hu) (de_var 0) (de_var 1))))))
    ds_nil)
  (ds_cons (ds_if (dt_truth (de_isi T.b_isinstance rfl T.b_int rfl (by decide +kernel) (de_var 1)))
    (ds_one (ds_ret (de_and (de_isi T.b_isinstance rfl T.b_int rfl (by decide +kernel) (de_var 0)) (de_and (de_not (de_isi T.b_isinstance rfl T.b_bool rfl (by decide +kernel) (de_var 0))) (de_one (de_cmp (od_eq hu) (de_var 0) (de_var 1)))))))
    ds_nil)
  (ds_cons (ds_if (dt_truth (de_isi T.b_isinstance rfl T.b_str rfl (by decide +kernel) (de_var 1)))
    (ds_one (ds_ret (de_and (de_isi T.b_isinstance rfl T.b_str rfl (by decide +kernel) (de_var 0)) (de_one (de_cmp (od_eq hu) (de_var 0) (de_var 1))))))
    ds_nil)
  (ds_cons (ds_if (dt_truth (de_isi T.b_isinstance rfl T.b_dict rfl (by decide +kernel) (de_var 1)))
    (ds_cons (ds_if (PW.pt (dw_or (dt_not (dt_truth (de_isi T.b_isinstance rfl T.b_dict rfl (by decide +kernel) (de_var 0)))) (dw_or1 (dt_cmp (od_ne hu) (de_callB cd_len T.b_len rfl (by decide +kernel) (da_cons (de_var 0) da_nil)) (de_callB cd_len T.b_len rfl (by decide +kernel) (da_cons (de_var 1) da_nil))))))
    (ds_one (ds_ret de_bl))
    ds_nil)
  (ds_one (ds_ret (de_callB (cd_all rfl) T.b_all rfl (by decide +kernel) (da_cons (de_lc (own := [("name", 2)]) (g := (gName 2)) (own_name (by decide)) rfl nd (di_any (de_var 1)) (blkOk_by (own := [("name", 2)]) (N := n_law_alike) (sc := (defScope s_law_alike)) (by decide +kernel)) (fun _ _ _ _ _ => (pg_nm nd)) (fun _ _ _ _ _ => dts_nil) (fun _ _ _ _ _ => (de_and (de_cmp (od_in hu) (de_var 2) (de_var 0)) (de_one (de_call G_law_alike (hr.mono (by omega)) rfl (da_cons (de_ix od_ix (de_var 0) (de_var 2)) (da_cons (de_ix od_ix (de_var 1) (de_var 2)) da_nil))))))) da_nil)))))
    ds_nil)
  (ds_cons (ds_if (PW.pt (dw_or (PW.pt (dw_and (dt_truth (de_isi T.b_isinstance rfl T.b_tuple rfl (by decide +kernel) (de_var 1))) (dw_and1 (dt_not (dt_truth (de_isi T.b_isinstance rfl T.b_tuple rfl (by decide +kernel) (de_var 0))))))) (dw_or1 (PW.pt (dw_and (dt_truth (de_isi T.b_isinstance rfl T.b_list rfl (by decide +kernel) (de_var 1))) (dw_and1 (dt_not (dt_truth (de_isi T.b_isinstance rfl T.b_list rfl (by decide +kernel) (de_var 0))))))))))
    (ds_one (ds_ret de_bl))
    ds_nil)
  (ds_one (ds_ret (de_and (de_cmp (od_eq hu) (de_callB cd_len T.b_len rfl (by decide +kernel) (da_cons (de_var 0) da_nil)) (de_callB cd_len T.b_len rfl (by decide +kernel) (da_cons (de_var 1) da_nil))) (de_one (de_callB (cd_all rfl) T.b_all rfl (by decide +kernel) (da_cons (de_lc (own := [("one", 3), ("other", 4)]) (g := (gTup K 2 (gCons (gName 3) (gCons (gName 4) gNil)))) (own_tup2 (by decide) (by decide)) rfl nd (di_zip T.b_zip rfl (da_cons (de_var 0) (da_cons (de_var 1) da_nil))) (blkOk_by (own := [("one", 3), ("other", 4)]) (N := n_law_alike) (sc := (defScope s_law_alike)) (by decide +kernel)) (fun _ _ _ _ _ => (pg_tup rfl (pgs_cons (pg_nm nd) (pgs_cons (pg_nm nd) pgs_nil)))) (fun _ _ _ _ _ => dts_nil) (fun _ _ _ _ _ => (de_call G_law_alike (hr.mono (by omega)) rfl (da_cons (de_var 3) (da_cons (de_var 4) da_nil))))) da_nil))))))))))))
abbrev s_law : Stmt := top 11
abbrev n_law : List Str := ["script", "k", "left", "atom", "head", "body", "group", "j"]
theorem sc_law : FnScope n_law ["script"] (defScope s_law) := ⟨rfl, rfl, rfl, by decide +kernel, rfl, by decide +kernel, by decide +kernel⟩
theorem ok_law (T : Txt mg) {f : Addr} {fd : FuncData} (F : Fun K "law" "law" s_law f fd) {k : Nat} {sp_law_left sp_law_word sp_law_pick sp_law_any sp_law_alike sp_shape_of sp_rule_shape : DSp}
    (G_law_left : FnD P w K mg base k "_law_left" sp_law_left)
    (G_law_word : FnD P w K mg base k "_law_word" sp_law_word)
    (G_law_pick : FnD P w K mg base k "_law_pick" sp_law_pick)
    (G_law_any : FnD P w K mg base k "_law_any" sp_law_any)
    (G_law_alike : FnD P w K mg base k "_law_alike" sp_law_alike)
    (G_shape_of : FnD P w K mg base k "shape_of" sp_shape_of)
    (G_rule_shape : FnD P w K mg base k "rule_shape" sp_rule_shape) {sp : DSp}
    (sem : ∀ ds S R, sp ds S R → ds.length = 1 ∧ w_law sp_law_left sp_law_word sp_law_pick sp_law_any sp_law_alike sp_shape_of sp_rule_shape (endsD R) (startD 8 ds) S) : FnOk P w K mg base CX0 (k + 1) f fd ["script"] (spD w K mg sp) := by
  refine fn_ok (N := n_law) (ps := ["script"]) (ws := w_law sp_law_left sp_law_word sp_law_pick sp_law_any sp_law_alike sp_shape_of sp_rule_shape) F sc_law (by decide) (fun ds S R h => (sem ds S R h).1) (fun cdv A outer s H E hr => ?_) (fun ds S R h => (sem ds S R h).2)
  have nd : (n_law).Nodup := sc_law.nd
  have hu := room_units hr
  unfold w_law
  exact (ds_cons (ds_for PassesOwn.never rfl (di_range2 T.b_range rfl (da_cons de_int (da_cons (de_callB (cd_max2 rfl) T.b_max rfl (by decide +kernel) (da_cons de_int (da_cons (de_callB (cd_min2 rfl) T.b_min rfl (by decide +kernel) (da_cons (de_callB cd_len T.b_len rfl (by decide +kernel) (da_cons (de_var 0) da_nil)) (da_cons de_int da_nil))) da_nil))) da_nil))) (dg_name nd)
    (ds_cons (ds_set nd (de_call G_law_left (hr.mono (by omega)) rfl (da_cons (de_var 0) (da_cons (de_var 1) da_nil))))
  (ds_cons (ds_set nd (de_op od_add (de_tup (da_cons (de_call G_law_word (hr.mono (by omega)) rfl (da_cons (de_var 2) da_nil)) da_nil)) (de_callT cd_tuple T.b_tuple rfl (by decide +kernel) (da_cons (de_lc (own := [("j", 7)]) (g := (gName 7)) (own_name (by decide)) rfl nd (di_range1 T.b_range rfl (da_cons (de_call G_law_pick (hr.mono (by omega)) rfl (da_cons (de_var 2) (da_cons de_int da_nil))) da_nil)) (blkOk_by (own := [("j", 7)]) (N := n_law) (sc := (defScope s_law)) (by decide +kernel)) (fun _ _ _ _ _ => (pg_nm nd)) (fun _ _ _ _ _ => dts_nil) (fun _ _ _ _ _ => (de_call G_law_any (hr.mono (by omega)) rfl (da_cons (de_var 2) (da_cons de_int da_nil))))) da_nil))))
  (ds_cons (ds_if (dt_not (dt_truth (de_call G_law_alike (hr.mono (by omega)) rfl (da_cons (de_call G_shape_of (hr.mono (by omega)) rfl (da_cons (de_var 3) da_nil)) (da_cons (de_tup (da_cons (de_ix od_ix (de_var 3) de_int) (da_cons (de_op od_sub (de_callB cd_len T.b_len rfl (by decide +kernel) (da_cons (de_var 3) da_nil)) de_int) da_nil))) da_nil)))))
    (ds_one (ds_ret de_bl))
    ds_nil)
  (ds_cons (ds_set nd (de_op od_add (de_tup (da_cons (de_ix od_ix (de_var 3) de_int) da_nil)) (de_callT cd_tuple T.b_tuple rfl (by decide +kernel) (da_cons (de_slice sd_any (de_lst (da_cons de_int (da_cons (de_tup (da_cons de_str da_nil)) (da_cons de_str da_nil)))) do_none (do_some (de_call G_law_pick (hr.mono (by omega)) rfl (da_cons (de_var 2) (da_cons de_int da_nil))))) da_nil))))
  (ds_cons (ds_set nd (de_tup (da_cons (de_tup (da_cons de_str (da_cons (de_var 3) da_nil))) (da_cons (de_tup (da_cons de_str (da_cons (de_tup (da_cons de_str (da_cons de_str da_nil))) da_nil))) da_nil))))
  (ds_cons (ds_if (dt_not (dt_truth (de_call G_law_alike (hr.mono (by omega)) rfl (da_cons (de_call G_rule_shape (hr.mono (by omega)) rfl (da_cons (de_tup (da_cons (de_var 4) (da_cons de_non (da_cons (de_var 5) da_nil)))) da_nil)) (da_cons (de_tup (da_cons (de_ix od_ix (de_var 4) de_int) (da_cons (de_op od_sub (de_callB cd_len T.b_len rfl (by decide +kernel) (da_cons (de_var 4) da_nil)) de_int) da_nil))) da_nil)))))
    (ds_one (ds_ret de_bl))
    ds_nil)
  (ds_one (ds_for PassesOwn.never rfl (di_any (de_lst (da_cons (de_tup (da_cons de_str da_nil)) (da_cons (de_tup (da_cons de_str (da_cons de_str da_nil))) (da_cons (de_tup (da_cons de_str (da_cons de_str da_nil))) (da_cons (de_tup (da_cons de_str (da_cons de_str da_nil))) da_nil)))))) (dg_name nd)
    (ds_one (ds_if (dt_not (dt_truth (de_call G_law_alike (hr.mono (by omega)) rfl (da_cons (de_call G_rule_shape (hr.mono (by omega)) rfl (da_cons (de_tup (da_cons (de_var 4) (da_cons (de_var 6) (da_cons (de_var 5) da_nil)))) da_nil)) (da_cons (de_tup (da_cons (de_ix od_ix (de_var 4) de_int) (da_cons (de_callB cd_len T.b_len rfl (by decide +kernel) (da_cons (de_var 4) da_nil)) da_nil))) da_nil)))))
    (ds_one (ds_ret de_bl))
    ds_nil)))))))))))
  (ds_one (ds_ret de_bl)))
end

structure All (K : PySem.W.Frag) (mg : Str → Option Value) : Prop where
  t : Txt mg
  f_shape_of : ∃ f fd, Fun K "shape_of" "shape_of" s_shape_of f fd ∧ mg "shape_of" = some (.ref f) ∧ Binds K fd ["atom"] []
  f_rule_shape : ∃ f fd, Fun K "rule_shape" "rule_shape" s_rule_shape f fd ∧ mg "rule_shape" = some (.ref f) ∧ Binds K fd ["rule"] []
  f_law_cell_at : ∃ f fd, Fun K "_law_cell_at" "_law_cell_at" s_law_cell_at f fd ∧ mg "_law_cell_at" = some (.ref f) ∧ Binds K fd ["script", "k"] []
  f_law_left : ∃ f fd, Fun K "_law_left" "_law_left" s_law_left f fd ∧ mg "_law_left" = some (.ref f) ∧ Binds K fd ["script", "k"] []
  f_law_pick : ∃ f fd, Fun K "_law_pick" "_law_pick" s_law_pick f fd ∧ mg "_law_pick" = some (.ref f) ∧ Binds K fd ["left", "many"] []
  f_law_word : ∃ f fd, Fun K "_law_word" "_law_word" s_law_word f fd ∧ mg "_law_word" = some (.ref f) ∧ Binds K fd ["left"] []
  f_law_name : ∃ f fd, Fun K "_law_name" "_law_name" s_law_name f fd ∧ mg "_law_name" = some (.ref f) ∧ Binds K fd ["left"] []
  f_law_any : ∃ f fd, Fun K "_law_any" "_law_any" s_law_any f fd ∧ mg "_law_any" = some (.ref f) ∧ Binds K fd ["left", "deep"] []
  f_law_alike : ∃ f fd, Fun K "_law_alike" "_law_alike" s_law_alike f fd ∧ mg "_law_alike" = some (.ref f) ∧ Binds K fd ["found", "due"] []
section
variable {P : Program} {w : World} {K : PySem.W.Frag} {mg : Str → Option Value} {base : Heap}
theorem G_shape_of (A : All K mg) : FnD P w K mg base 1 "shape_of" S_shape_of :=
  let ⟨f, fd, F, hf, hb⟩ := A.f_shape_of; ok_shape_of A.t F hf hb sem_shape_of
theorem G_rule_shape (A : All K mg) : FnD P w K mg base 2 "rule_shape" S_rule_shape :=
  let ⟨f, fd, F, hf, hb⟩ := A.f_rule_shape; ok_rule_shape A.t F hf hb ((G_shape_of A).mono (by omega)) sem_rule_shape
theorem G_law_cell_at (A : All K mg) : FnD P w K mg base 1 "_law_cell_at" S_law_cell_at :=
  let ⟨f, fd, F, hf, hb⟩ := A.f_law_cell_at; ok_law_cell_at A.t F hf hb sem_law_cell_at
theorem G_law_left (A : All K mg) : FnD P w K mg base 2 "_law_left" S_law_left :=
  let ⟨f, fd, F, hf, hb⟩ := A.f_law_left; ok_law_left A.t F hf hb ((G_law_cell_at A).mono (by omega)) sem_law_left
theorem G_law_pick (A : All K mg) : FnD P w K mg base 1 "_law_pick" S_law_pick :=
  let ⟨f, fd, F, hf, hb⟩ := A.f_law_pick; ok_law_pick A.t F hf hb sem_law_pick
theorem G_law_word (A : All K mg) : FnD P w K mg base 2 "_law_word" S_law_word :=
  let ⟨f, fd, F, hf, hb⟩ := A.f_law_word; ok_law_word A.t F hf hb ((G_law_pick A).mono (by omega)) sem_law_word
theorem G_law_name (A : All K mg) : FnD P w K mg base 2 "_law_name" S_law_name :=
  let ⟨f, fd, F, hf, hb⟩ := A.f_law_name; ok_law_name A.t F hf hb ((G_law_pick A).mono (by omega)) sem_law_name
theorem GG_law_any (A : All K mg) : ∀ n : Nat, FnD P w K mg base (3 + n) "_law_any" (S_law_any n)
  | 0 => (let ⟨f, fd, F, hf, hb⟩ := A.f_law_any; (fn_never (k := 2) F sc_law_any hf hb fun _ _ _ h => h))
  | n + 1 => let ih0 := GG_law_any A n; (let ⟨f, fd, F, hf, hb⟩ := A.f_law_any; ok_law_any A.t F hf hb ((G_law_pick A).mono (by omega)) ((G_law_name A).mono (by omega)) ((G_law_word A).mono (by omega)) ih0 (sem_law_any n))
theorem G_law_any (A : All K mg) (n : Nat) : FnD P w K mg base (3 + n) "_law_any" (S_law_any n) := (GG_law_any A n)
theorem GG_law_alike (A : All K mg) : ∀ n : Nat, FnD P w K mg base (1 + n) "_law_alike" (S_law_alike n)
  | 0 => (let ⟨f, fd, F, hf, hb⟩ := A.f_law_alike; (fn_never (k := 0) F sc_law_alike hf hb fun _ _ _ h => h))
  | n + 1 => let ih0 := GG_law_alike A n; (let ⟨f, fd, F, hf, hb⟩ := A.f_law_alike; ok_law_alike A.t F hf hb ih0 (sem_law_alike n))
theorem G_law_alike (A : All K mg) (n : Nat) : FnD P w K mg base (1 + n) "_law_alike" (S_law_alike n) := (GG_law_alike A n)
end
theorem all_mk {l : PySem.W.OpenLaw} {w : World} {K : PySem.W.Frag} {h : Heap} {mg : Str → Option Value} {fa : Addr} (X : K.In h) (G : h.Ns mainGlobals mg) (hfa : mg "law" = some (.ref fa))
    {f_shape_of : Addr} {od_shape_of an_shape_of : Option Addr} {sl_shape_of : Array (Option Value)} {oc_shape_of kV_shape_of dc_shape_of pm_shape_of cd_shape_of ct_shape_of : Value}
    {f_rule_shape : Addr} {od_rule_shape an_rule_shape : Option Addr} {sl_rule_shape : Array (Option Value)} {oc_rule_shape kV_rule_shape dc_rule_shape pm_rule_shape cd_rule_shape ct_rule_shape : Value}
    {f_law_cell_at : Addr} {od_law_cell_at an_law_cell_at : Option Addr} {sl_law_cell_at : Array (Option Value)} {oc_law_cell_at kV_law_cell_at dc_law_cell_at pm_law_cell_at cd_law_cell_at ct_law_cell_at : Value}
    {f_law_left : Addr} {od_law_left an_law_left : Option Addr} {sl_law_left : Array (Option Value)} {oc_law_left kV_law_left dc_law_left pm_law_left cd_law_left ct_law_left : Value}
    {f_law_pick : Addr} {od_law_pick an_law_pick : Option Addr} {sl_law_pick : Array (Option Value)} {oc_law_pick kV_law_pick dc_law_pick pm_law_pick cd_law_pick ct_law_pick : Value}
    {f_law_word : Addr} {od_law_word an_law_word : Option Addr} {sl_law_word : Array (Option Value)} {oc_law_word kV_law_word dc_law_word pm_law_word cd_law_word ct_law_word : Value}
    {f_law_name : Addr} {od_law_name an_law_name : Option Addr} {sl_law_name : Array (Option Value)} {oc_law_name kV_law_name dc_law_name pm_law_name cd_law_name ct_law_name : Value}
    {f_law_any : Addr} {od_law_any an_law_any : Option Addr} {sl_law_any : Array (Option Value)} {oc_law_any kV_law_any dc_law_any pm_law_any cd_law_any ct_law_any : Value}
    {f_law_alike : Addr} {od_law_alike an_law_alike : Option Addr} {sl_law_alike : Array (Option Value)} {oc_law_alike kV_law_alike dc_law_alike pm_law_alike cd_law_alike ct_law_alike : Value}
    {f_law : Addr} {od_law an_law : Option Addr} {sl_law : Array (Option Value)} {oc_law kV_law dc_law pm_law cd_law ct_law : Value}
    (a_shape_of : PySem.W.nsIn K mainGlobals "shape_of" = some (some (.ref f_shape_of))) (l_shape_of : K.lookup f_shape_of = some ⟨oc_shape_of, od_shape_of, .func (PySem.W.fnOf "shape_of" "shape_of" (defArgs s_shape_of) (defBody s_shape_of) (defScope s_shape_of) .none kV_shape_of dc_shape_of pm_shape_of an_shape_of cd_shape_of ct_shape_of), sl_shape_of⟩) (c_shape_of : PySem.W.codeIn K cd_shape_of "shape_of" = true) (k_shape_of : PySem.W.keepIn K (.ref f_shape_of) = true)
    (a_rule_shape : PySem.W.nsIn K mainGlobals "rule_shape" = some (some (.ref f_rule_shape))) (l_rule_shape : K.lookup f_rule_shape = some ⟨oc_rule_shape, od_rule_shape, .func (PySem.W.fnOf "rule_shape" "rule_shape" (defArgs s_rule_shape) (defBody s_rule_shape) (defScope s_rule_shape) .none kV_rule_shape dc_rule_shape pm_rule_shape an_rule_shape cd_rule_shape ct_rule_shape), sl_rule_shape⟩) (c_rule_shape : PySem.W.codeIn K cd_rule_shape "rule_shape" = true) (k_rule_shape : PySem.W.keepIn K (.ref f_rule_shape) = true)
    (a_law_cell_at : PySem.W.nsIn K mainGlobals "_law_cell_at" = some (some (.ref f_law_cell_at))) (l_law_cell_at : K.lookup f_law_cell_at = some ⟨oc_law_cell_at, od_law_cell_at, .func (PySem.W.fnOf "_law_cell_at" "_law_cell_at" (defArgs s_law_cell_at) (defBody s_law_cell_at) (defScope s_law_cell_at) .none kV_law_cell_at dc_law_cell_at pm_law_cell_at an_law_cell_at cd_law_cell_at ct_law_cell_at), sl_law_cell_at⟩) (c_law_cell_at : PySem.W.codeIn K cd_law_cell_at "_law_cell_at" = true) (k_law_cell_at : PySem.W.keepIn K (.ref f_law_cell_at) = true)
    (a_law_left : PySem.W.nsIn K mainGlobals "_law_left" = some (some (.ref f_law_left))) (l_law_left : K.lookup f_law_left = some ⟨oc_law_left, od_law_left, .func (PySem.W.fnOf "_law_left" "_law_left" (defArgs s_law_left) (defBody s_law_left) (defScope s_law_left) .none kV_law_left dc_law_left pm_law_left an_law_left cd_law_left ct_law_left), sl_law_left⟩) (c_law_left : PySem.W.codeIn K cd_law_left "_law_left" = true) (k_law_left : PySem.W.keepIn K (.ref f_law_left) = true)
    (a_law_pick : PySem.W.nsIn K mainGlobals "_law_pick" = some (some (.ref f_law_pick))) (l_law_pick : K.lookup f_law_pick = some ⟨oc_law_pick, od_law_pick, .func (PySem.W.fnOf "_law_pick" "_law_pick" (defArgs s_law_pick) (defBody s_law_pick) (defScope s_law_pick) .none kV_law_pick dc_law_pick pm_law_pick an_law_pick cd_law_pick ct_law_pick), sl_law_pick⟩) (c_law_pick : PySem.W.codeIn K cd_law_pick "_law_pick" = true) (k_law_pick : PySem.W.keepIn K (.ref f_law_pick) = true)
    (a_law_word : PySem.W.nsIn K mainGlobals "_law_word" = some (some (.ref f_law_word))) (l_law_word : K.lookup f_law_word = some ⟨oc_law_word, od_law_word, .func (PySem.W.fnOf "_law_word" "_law_word" (defArgs s_law_word) (defBody s_law_word) (defScope s_law_word) .none kV_law_word dc_law_word pm_law_word an_law_word cd_law_word ct_law_word), sl_law_word⟩) (c_law_word : PySem.W.codeIn K cd_law_word "_law_word" = true) (k_law_word : PySem.W.keepIn K (.ref f_law_word) = true)
    (a_law_name : PySem.W.nsIn K mainGlobals "_law_name" = some (some (.ref f_law_name))) (l_law_name : K.lookup f_law_name = some ⟨oc_law_name, od_law_name, .func (PySem.W.fnOf "_law_name" "_law_name" (defArgs s_law_name) (defBody s_law_name) (defScope s_law_name) .none kV_law_name dc_law_name pm_law_name an_law_name cd_law_name ct_law_name), sl_law_name⟩) (c_law_name : PySem.W.codeIn K cd_law_name "_law_name" = true) (k_law_name : PySem.W.keepIn K (.ref f_law_name) = true)
    (a_law_any : PySem.W.nsIn K mainGlobals "_law_any" = some (some (.ref f_law_any))) (l_law_any : K.lookup f_law_any = some ⟨oc_law_any, od_law_any, .func (PySem.W.fnOf "_law_any" "_law_any" (defArgs s_law_any) (defBody s_law_any) (defScope s_law_any) .none kV_law_any dc_law_any pm_law_any an_law_any cd_law_any ct_law_any), sl_law_any⟩) (c_law_any : PySem.W.codeIn K cd_law_any "_law_any" = true) (k_law_any : PySem.W.keepIn K (.ref f_law_any) = true)
    (a_law_alike : PySem.W.nsIn K mainGlobals "_law_alike" = some (some (.ref f_law_alike))) (l_law_alike : K.lookup f_law_alike = some ⟨oc_law_alike, od_law_alike, .func (PySem.W.fnOf "_law_alike" "_law_alike" (defArgs s_law_alike) (defBody s_law_alike) (defScope s_law_alike) .none kV_law_alike dc_law_alike pm_law_alike an_law_alike cd_law_alike ct_law_alike), sl_law_alike⟩) (c_law_alike : PySem.W.codeIn K cd_law_alike "_law_alike" = true) (k_law_alike : PySem.W.keepIn K (.ref f_law_alike) = true)
    (a_law : PySem.W.nsIn K mainGlobals "law" = some (some (.ref f_law))) (l_law : K.lookup f_law = some ⟨oc_law, od_law, .func (PySem.W.fnOf "law" "law" (defArgs s_law) (defBody s_law) (defScope s_law) .none kV_law dc_law pm_law an_law cd_law ct_law), sl_law⟩) (c_law : PySem.W.codeIn K cd_law "law" = true) (k_law : PySem.W.keepIn K (.ref f_law) = true)
    (zb_all : PySem.W.nsIn K mainGlobals "all" = some none)
    (zb_bool : PySem.W.nsIn K mainGlobals "bool" = some none)
    (zb_dict : PySem.W.nsIn K mainGlobals "dict" = some none)
    (zb_int : PySem.W.nsIn K mainGlobals "int" = some none)
    (zb_isinstance : PySem.W.nsIn K mainGlobals "isinstance" = some none)
    (zb_len : PySem.W.nsIn K mainGlobals "len" = some none)
    (zb_list : PySem.W.nsIn K mainGlobals "list" = some none)
    (zb_max : PySem.W.nsIn K mainGlobals "max" = some none)
    (zb_min : PySem.W.nsIn K mainGlobals "min" = some none)
    (zb_range : PySem.W.nsIn K mainGlobals "range" = some none)
    (zb_str : PySem.W.nsIn K mainGlobals "str" = some none)
    (zb_tuple : PySem.W.nsIn K mainGlobals "tuple" = some none)
    (zb_zip : PySem.W.nsIn K mainGlobals "zip" = some none) :
    ∃ fd : FuncData, (∀ (s : Shared) (u : Value), BindsTo s fd ⟨[u], []⟩ [("script", u)]) ∧ ∀ base : Heap, K.In base → base.Ns mainGlobals mg → FnOk l.prog w K mg base CX0 11 fa fd ["script"] (spD w K mg S_law) := by
  have e := hfa.symm.trans (PySem.W.mg_of X G a_law)
  cases e
  have T : Txt mg := ⟨PySem.W.mg_none_of X G zb_all, PySem.W.mg_none_of X G zb_bool, PySem.W.mg_none_of X G zb_dict, PySem.W.mg_none_of X G zb_int, PySem.W.mg_none_of X G zb_isinstance, PySem.W.mg_none_of X G zb_len, PySem.W.mg_none_of X G zb_list, PySem.W.mg_none_of X G zb_max, PySem.W.mg_none_of X G zb_min, PySem.W.mg_none_of X G zb_range, PySem.W.mg_none_of X G zb_str, PySem.W.mg_none_of X G zb_tuple, PySem.W.mg_none_of X G zb_zip⟩
  have F_shape_of := fun_mk (st := s_shape_of) l_shape_of c_shape_of k_shape_of
  have B_shape_of := F_shape_of.binds (ps := ["atom"]) fun _ _ _ _ _ _ us hl => match us, hl with | [_], _ => rfl
  have F_rule_shape := fun_mk (st := s_rule_shape) l_rule_shape c_rule_shape k_rule_shape
  have B_rule_shape := F_rule_shape.binds (ps := ["rule"]) fun _ _ _ _ _ _ us hl => match us, hl with | [_], _ => rfl
  have F_law_cell_at := fun_mk (st := s_law_cell_at) l_law_cell_at c_law_cell_at k_law_cell_at
  have B_law_cell_at := F_law_cell_at.binds (ps := ["script", "k"]) fun _ _ _ _ _ _ us hl => match us, hl with | [_, _], _ => rfl
  have F_law_left := fun_mk (st := s_law_left) l_law_left c_law_left k_law_left
  have B_law_left := F_law_left.binds (ps := ["script", "k"]) fun _ _ _ _ _ _ us hl => match us, hl with | [_, _], _ => rfl
  have F_law_pick := fun_mk (st := s_law_pick) l_law_pick c_law_pick k_law_pick
  have B_law_pick := F_law_pick.binds (ps := ["left", "many"]) fun _ _ _ _ _ _ us hl => match us, hl with | [_, _], _ => rfl
  have F_law_word := fun_mk (st := s_law_word) l_law_word c_law_word k_law_word
  have B_law_word := F_law_word.binds (ps := ["left"]) fun _ _ _ _ _ _ us hl => match us, hl with | [_], _ => rfl
  have F_law_name := fun_mk (st := s_law_name) l_law_name c_law_name k_law_name
  have B_law_name := F_law_name.binds (ps := ["left"]) fun _ _ _ _ _ _ us hl => match us, hl with | [_], _ => rfl
  have F_law_any := fun_mk (st := s_law_any) l_law_any c_law_any k_law_any
  have B_law_any := F_law_any.binds (ps := ["left", "deep"]) fun _ _ _ _ _ _ us hl => match us, hl with | [_, _], _ => rfl
  have F_law_alike := fun_mk (st := s_law_alike) l_law_alike c_law_alike k_law_alike
  have B_law_alike := F_law_alike.binds (ps := ["found", "due"]) fun _ _ _ _ _ _ us hl => match us, hl with | [_, _], _ => rfl
  have A : All K mg := ⟨T, ⟨_, _, F_shape_of, PySem.W.mg_of X G a_shape_of, B_shape_of⟩, ⟨_, _, F_rule_shape, PySem.W.mg_of X G a_rule_shape, B_rule_shape⟩, ⟨_, _, F_law_cell_at, PySem.W.mg_of X G a_law_cell_at, B_law_cell_at⟩, ⟨_, _, F_law_left, PySem.W.mg_of X G a_law_left, B_law_left⟩, ⟨_, _, F_law_pick, PySem.W.mg_of X G a_law_pick, B_law_pick⟩, ⟨_, _, F_law_word, PySem.W.mg_of X G a_law_word, B_law_word⟩, ⟨_, _, F_law_name, PySem.W.mg_of X G a_law_name, B_law_name⟩, ⟨_, _, F_law_any, PySem.W.mg_of X G a_law_any, B_law_any⟩, ⟨_, _, F_law_alike, PySem.W.mg_of X G a_law_alike, B_law_alike⟩⟩
  exact ⟨PySem.W.fnOf "law" "law" (defArgs s_law) (defBody s_law) (defScope s_law) .none kV_law dc_law pm_law an_law cd_law ct_law, fun s v => .of_eq rfl, fun base _ _ =>
    ok_law (k := 10) T (fun_mk (st := s_law) l_law c_law k_law) ((G_law_left A).mono (by omega)) ((G_law_word A).mono (by omega)) ((G_law_pick A).mono (by omega)) ((G_law_any A _).mono (by omega)) ((G_law_alike A _).mono (by omega)) ((G_shape_of A).mono (by omega)) ((G_rule_shape A).mono (by omega)) sem_law⟩
theorem walk {l : PySem.W.OpenLaw} {q : Program} {loose : List Str} {XP : (Str → Option Value) → Heap → Prop} {YP : World → Heap → Prop} {d : DefRec} {K : Params → PySem.W.Frag} (hn : l.most = some 63) (hdf : d.params.defaults = [])
    (hY : ∀ (w : World) (h : Heap), YP w h → (K w.params).In h)
    (F : ∀ (w : World) (mg : Str → Option Value) (fa : Addr) (h : Heap), (K w.params).In h → h.Ns mainGlobals mg → mg d.name = some (.ref fa) →
      ∃ fd : FuncData, (∀ (s : Shared) (u : Value), BindsTo s fd ⟨[u], []⟩ [("script", u)]) ∧ ∀ base : Heap, (K w.params).In base → base.Ns mainGlobals mg → FnOk l.prog w (K w.params) mg base CX0 11 fa fd ["script"] (spD w (K w.params) mg S_law)) :
    PySem.W.WalkO q loose XP YP l.row.toRowW d [] (fun f vs => PySem.call f vs) :=
  Dl.walk_mk (n := 63) (k := 11) (x := "script") hn (by decide) hdf ⟨rfl, by decide, by decide⟩ hY F fun ns h => ⟨ns, rfl, h, fun _ => rfl⟩
end Kk13
open PySem PySem.W PyProof.Rows in
set_option maxRecDepth 100000 in
set_option maxHeartbeats 0 in
theorem PySem.Challenge.cw_reasonkeep_k13_shapes_holds : PySem.Challenge.rw_reasonkeep_k13_shapes.Holds := by
  w_on; o_law; k_head; (case hw => w_witness2)
  k_fill
  refine Kk13.walk (l := PySem.Challenge.rw_reasonkeep_k13_shapes) rfl rfl (fun w h Y => PySem.W.kIn_of Y) ?F
  case F =>
    intro w mg fa h KX G hmg
    refine' Kk13.all_mk KX G hmg ?a_shape_of ?l_shape_of ?c_shape_of ?k_shape_of ?a_rule_shape ?l_rule_shape ?c_rule_shape ?k_rule_shape ?a_law_cell_at ?l_law_cell_at ?c_law_cell_at ?k_law_cell_at ?a_law_left ?l_law_left ?c_law_left ?k_law_left ?a_law_pick ?l_law_pick ?c_law_pick ?k_law_pick ?a_law_word ?l_law_word ?c_law_word ?k_law_word ?a_law_name ?l_law_name ?c_law_name ?k_law_name ?a_law_any ?l_law_any ?c_law_any ?k_law_any ?a_law_alike ?l_law_alike ?c_law_alike ?k_law_alike ?a_law ?l_law ?c_law ?k_law ?zb_all ?zb_bool ?zb_dict ?zb_int ?zb_isinstance ?zb_len ?zb_list ?zb_max ?zb_min ?zb_range ?zb_str ?zb_tuple ?zb_zip
    (case a_shape_of => k_is)
    (case l_shape_of => k_is)
    (case c_shape_of => k_is)
    (case k_shape_of => k_is)
    (case a_rule_shape => k_is)
    (case l_rule_shape => k_is)
    (case c_rule_shape => k_is)
    (case k_rule_shape => k_is)
    (case a_law_cell_at => k_is)
    (case l_law_cell_at => k_is)
    (case c_law_cell_at => k_is)
    (case k_law_cell_at => k_is)
    (case a_law_left => k_is)
    (case l_law_left => k_is)
    (case c_law_left => k_is)
    (case k_law_left => k_is)
    (case a_law_pick => k_is)
    (case l_law_pick => k_is)
    (case c_law_pick => k_is)
    (case k_law_pick => k_is)
    (case a_law_word => k_is)
    (case l_law_word => k_is)
    (case c_law_word => k_is)
    (case k_law_word => k_is)
    (case a_law_name => k_is)
    (case l_law_name => k_is)
    (case c_law_name => k_is)
    (case k_law_name => k_is)
    (case a_law_any => k_is)
    (case l_law_any => k_is)
    (case c_law_any => k_is)
    (case k_law_any => k_is)
    (case a_law_alike => k_is)
    (case l_law_alike => k_is)
    (case c_law_alike => k_is)
    (case k_law_alike => k_is)
    (case a_law => k_is)
    (case l_law => k_is)
    (case c_law => k_is)
    (case k_law => k_is)
    (case zb_all => k_is)
    (case zb_bool => k_is)
    (case zb_dict => k_is)
    (case zb_int => k_is)
    (case zb_isinstance => k_is)
    (case zb_len => k_is)
    (case zb_list => k_is)
    (case zb_max => k_is)
    (case zb_min => k_is)
    (case zb_range => k_is)
    (case zb_str => k_is)
    (case zb_tuple => k_is)
    (case zb_zip => k_is)
