import PyProof.Rows.All
import Wide.All
import OpenK.AllK
import Wide.FinOn
import HandS.ForMost
import HandS.Exc
import HandS.ExcOwn
import HandS.ExcInit
import HandS.TryOnly
import HandS.Flow
import HandS.Style
import HandS.IsInst
import HandS.DictComp
import HandS.Conv
import HandS.WordsExc
import KE.SortData
import KE.DataCmp
import KE.DataFind
import HandS.TupAny
import HandS.TupMul
import HandS.Wide
import KE.DatumIndex
import HandS.Text
import HandS.Steps
import HandS.Words
import HandS.Zip
import KE.GoesZip
import KE.GoesEnum
import KE.GoesMore
import KE.KDictWalk
import HandS.Set
import HandS.SetFor
import HandS.SetKeys
import HandS.Deep
import KE.KDictSum
import KE.KDictCopyH
import HandS.More
import HandS.ExcField
import KE.KExcIs
import HandS.Ends
import HandS.ExcIs
import PyProof.StrLawsRepr
import PyProof.Rows.StrDigits
import PySem.Challenge.RW_likeholes_k02_slots_and_kinds
set_option Elab.async false
set_option linter.all false
set_option maxRecDepth 100000
set_option maxHeartbeats 4000000
/-! HL: a data level over the hand layer. Values are plain data (PyData); lists and dicts that may be shared are frozen (locked), those that a local name owns are plain. -/
namespace L2.HL
open PySem PySem.Spec PyProof.Rows

/-! ### words -/
/-- the law's source of draws -/
structure Src where
  cells : List Int
  turn : Int
/-- data, or a dict of data -/
inductive Fv where
  | d (x : PyData)
  | k (kvs : List (PyData × PyData))
abbrev Flds := List (Str × Fv)
/-- what a name may hold -/
inductive Vl where
  | dat (d : PyData)
  | dic (kvs : List (PyData × PyData))
  | src
  | ins (c : Str) (f : Flds)
  | exc (c : Str) (f : Flds)
/-- a list or a dict -/
def Vl.box : Vl → Bool
  | .dat (.list _) => true
  | .dic _ => true
  | _ => false
inductive Out (α : Type) where
  | ok (a : α) (S : Src)
  | exn (c : Str) (f : Flds) (S : Src)
  | stuck
def Out.bind {α β : Type} (o : Out α) (k : α → Src → Out β) : Out β := match o with
  | .ok a S => k a S
  | .exn c f S => .exn c f S
  | .stuck => .stuck
@[simp] theorem Out.bind_ok {α β : Type} (a : α) (S : Src) (k : α → Src → Out β) : (Out.ok a S).bind k = k a S := rfl
@[simp] theorem Out.bind_exn {α β : Type} (c : Str) (f : Flds) (S : Src) (k : α → Src → Out β) : (Out.exn c f S : Out α).bind k = .exn c f S := rfl
@[simp] theorem Out.bind_stuck {α β : Type} (k : α → Src → Out β) : (Out.stuck : Out α).bind k = .stuck := rfl
theorem Out.bind_assoc {α β γ : Type} (o : Out α) (k : α → Src → Out β) (k' : β → Src → Out γ) : (o.bind k).bind k' = o.bind fun a S => (k a S).bind k' := by
  cases o <;> rfl
/-- a local name: nothing yet, a shared value, an own list or dict -/
inductive Sl where
  | no
  | fz (x : Vl)
  | ow (x : Vl)
abbrev En := List Sl
abbrev EF := En → Src → Out Vl
abbrev BF := En → Src → Out Bool
/-- the source's two lists, the heap at the frame's entry -/
structure Gh where
  a0 : Addr
  c0 : Addr
  H0 : Hp

/-! ### data in the abstract heap -/
def FzL (H : Hp) (a : Addr) (xs : List V) : Prop := ∃ o, H a = some (.frz o (.lst xs))
/-- a written tuple without items -/
def WrT (K : PySem.W.Frag) (a : Addr) : Prop := ∃ (o : Obj) (its : Array Value) (n : Nat), K.lookup a = some o ∧ o.cls = .type "tuple" ∧ o.data = .seq its n ∧ its.size ≤ sizeLine ∧ Vals [] its.toList
def TpT (K : PySem.W.Frag) (H : Hp) (a : Addr) (xs : List V) : Prop := H a = some (.tup xs) ∨ (xs = [] ∧ WrT K a)
theorem FzL.sq {K : PySem.W.Frag} {H : Hp} {a : Addr} {xs : List V} (h : FzL H a xs) : SqL K H a xs := by
  obtain ⟨o, h⟩ := h
  exact .inl (.inr ⟨o, h⟩)
theorem TpT.sq {K : PySem.W.Frag} {H : Hp} {a : Addr} {xs : List V} (h : TpT K H a xs) : SqT K H a xs := by
  rcases h with h | ⟨rfl, h⟩
  · exact SqT.of h
  · exact .inr h
/-- a key as data -/
def keyD : Key → PyData
  | .inl i => .int i
  | .inr x => .str x
mutual
def Den (K : PySem.W.Frag) (H : Hp) : PyData → V → Prop
  | .none, v => v = .non
  | .bool b, v => v = .bl b
  | .int i, v => v = .int i
  | .str x, v => v = .str x
  | .list ds, v => ∃ a xs, v = .ref a ∧ FzL H a xs ∧ DenL K H ds xs
  | .tuple ds, v => ∃ a xs, v = .ref a ∧ TpT K H a xs ∧ DenL K H ds xs
  | .dict kvs, v => False
def DenL (K : PySem.W.Frag) (H : Hp) : List PyData → List V → Prop
  | [], vs => vs = []
  | d :: ds, vs => ∃ v r, vs = v :: r ∧ Den K H d v ∧ DenL K H ds r
end
def DenK (K : PySem.W.Frag) (H : Hp) : List (PyData × PyData) → List (Key × V) → Prop
  | [], ks => ks = []
  | (k, d) :: r, ks => ∃ k' v s, ks = (k', v) :: s ∧ k = keyD k' ∧ Den K H d v ∧ DenK K H r s
def DenT (K : PySem.W.Frag) (H : Hp) : List (PyData × PyData) → List (List Key × V) → Prop
  | [], ks => ks = []
  | (k, d) :: r, ks => ∃ k' v s, ks = (k', v) :: s ∧ k = .tuple (k'.map keyD) ∧ Den K H d v ∧ DenT K H r s
/-- a shared dict -/
def DenD (K : PySem.W.Frag) (H : Hp) (kvs : List (PyData × PyData)) (v : V) : Prop :=
  ∃ a, v = .ref a ∧ ((∃ o ks, H a = some (.frz o (.dK ks)) ∧ DenK K H kvs ks) ∨ ∃ o ks, H a = some (.frz o (.dT ks)) ∧ DenT K H kvs ks)
def DenV (K : PySem.W.Frag) (H : Hp) (x : Fv) (v : V) : Prop := match x with
  | .d d => Den K H d v
  | .k kvs => DenD K H kvs v
/-- what stays, once it is -/
def Pers (H H' : Hp) : Prop := (∀ a xs, H a = some (.tup xs) → H' a = some (.tup xs)) ∧ (∀ a o u, H a = some (.frz o u) → H' a = some (.frz o u)) 
theorem Pers.refl (H : Hp) : Pers H H := ⟨fun _ _ h => h, fun _ _ _ h => h⟩
theorem Pers.trans {H H1 H2 : Hp} (a : Pers H H1) (b : Pers H1 H2) : Pers H H2 := ⟨fun c xs h => b.1 c xs (a.1 c xs h), fun c o u h => b.2 c o u (a.2 c o u h)⟩

section
variable {K : PySem.W.Frag} {H H' : Hp}
theorem FzL.pers (p : Pers H H') {a : Addr} {xs : List V} (h : FzL H a xs) : FzL H' a xs := by
  obtain ⟨o, h⟩ := h
  exact ⟨o, p.2 _ _ _ h⟩
theorem TpT.pers (p : Pers H H') {a : Addr} {xs : List V} (h : TpT K H a xs) : TpT K H' a xs := by
  rcases h with h | h
  · exact .inl (p.1 _ _ h)
  · exact .inr h
mutual
theorem Den.pers (p : Pers H H') : ∀ (d : PyData) (v : V), Den K H d v → Den K H' d v
  | .none, _, h => h
  | .bool _, _, h => h
  | .int _, _, h => h
  | .str _, _, h => h
  | .list ds, v, h => by
    unfold Den at h ⊢
    obtain ⟨a, xs, e, hl, hd⟩ := h
    exact ⟨a, xs, e, hl.pers p, DenL.pers p ds xs hd⟩
  | .tuple ds, v, h => by
    unfold Den at h ⊢
    obtain ⟨a, xs, e, hl, hd⟩ := h
    exact ⟨a, xs, e, hl.pers p, DenL.pers p ds xs hd⟩
  | .dict kvs, v, h => by
    unfold Den at h
    exact h.elim
theorem DenL.pers (p : Pers H H') : ∀ (ds : List PyData) (vs : List V), DenL K H ds vs → DenL K H' ds vs
  | [], _, h => h
  | d :: ds, vs, h => by
    unfold DenL at h ⊢
    obtain ⟨v, r, e, h1, h2⟩ := h
    exact ⟨v, r, e, Den.pers p d v h1, DenL.pers p ds r h2⟩
end
theorem DenK.pers (p : Pers H H') : ∀ (ds : List (PyData × PyData)) (vs : List (Key × V)), DenK K H ds vs → DenK K H' ds vs
  | [], _, h => h
  | (k, d) :: ds, vs, h => by
    unfold DenK at h ⊢
    obtain ⟨k', v, s, e, ek, h1, h2⟩ := h
    exact ⟨k', v, s, e, ek, Den.pers p d v h1, DenK.pers p ds s h2⟩
theorem DenT.pers (p : Pers H H') : ∀ (ds : List (PyData × PyData)) (vs : List (List Key × V)), DenT K H ds vs → DenT K H' ds vs
  | [], _, h => h
  | (k, d) :: ds, vs, h => by
    unfold DenT at h ⊢
    obtain ⟨k', v, s, e, ek, h1, h2⟩ := h
    exact ⟨k', v, s, e, ek, Den.pers p d v h1, DenT.pers p ds s h2⟩
theorem DenD.pers (p : Pers H H') {kvs : List (PyData × PyData)} {v : V} (h : DenD K H kvs v) : DenD K H' kvs v := by
  obtain ⟨a, e, ⟨o, ks, hf, hd⟩ | ⟨o, ks, hf, hd⟩⟩ := h
  · exact ⟨a, e, .inl ⟨o, ks, p.2 _ _ _ hf, DenK.pers p kvs ks hd⟩⟩
  · exact ⟨a, e, .inr ⟨o, ks, p.2 _ _ _ hf, DenT.pers p kvs ks hd⟩⟩
theorem DenV.pers (p : Pers H H') {x : Fv} {v : V} (h : DenV K H x v) : DenV K H' x v := by
  cases x with
  | d d => exact Den.pers p d v h
  | k kvs => exact DenD.pers p h
mutual
theorem Den.plain : ∀ (d : PyData) (v : V), Den K H d v → d.plain = true
  | .none, _, h => rfl
  | .bool _, _, h => rfl
  | .int _, _, h => rfl
  | .str _, _, h => rfl
  | .list ds, v, h => by
    unfold Den at h
    obtain ⟨a, xs, e, hl, hd⟩ := h
    rw [PyData.plain]
    exact DenL.plain ds xs hd
  | .tuple ds, v, h => by
    unfold Den at h
    obtain ⟨a, xs, e, hl, hd⟩ := h
    rw [PyData.plain]
    exact DenL.plain ds xs hd
  | .dict kvs, v, h => by
    unfold Den at h
    exact h.elim
theorem DenL.plain : ∀ (ds : List PyData) (vs : List V), DenL K H ds vs → PyData.plainAll ds = true
  | [], _, h => rfl
  | d :: ds, vs, h => by
    unfold DenL at h
    obtain ⟨v, r, e, h1, h2⟩ := h
    rw [PyData.plainAll, Den.plain d v h1, DenL.plain ds r h2]
    rfl
end
theorem DenL.length : ∀ {ds : List PyData} {vs : List V}, DenL K H ds vs → ds.length = vs.length
  | [], vs, h => by
    unfold DenL at h
    rw [h]
    rfl
  | d :: ds, vs, h => by
    unfold DenL at h
    obtain ⟨v, r, e, h1, h2⟩ := h
    rw [e, List.length_cons, List.length_cons, DenL.length h2]
theorem DenL.append : ∀ {ds es : List PyData} {vs ws : List V}, DenL K H ds vs → DenL K H es ws → DenL K H (ds ++ es) (vs ++ ws)
  | [], es, vs, ws, h, h' => by
    unfold DenL at h
    rw [h]
    exact h'
  | d :: ds, es, vs, ws, h, h' => by
    unfold DenL at h
    obtain ⟨v, r, e, h1, h2⟩ := h
    rw [e]
    show DenL K H (d :: (ds ++ es)) (v :: (r ++ ws))
    unfold DenL
    exact ⟨v, r ++ ws, rfl, h1, DenL.append h2 h'⟩
theorem DenL.one {d : PyData} {v : V} (h : Den K H d v) : DenL K H [d] [v] := by
  unfold DenL
  refine ⟨v, [], rfl, h, ?_⟩
  unfold DenL
  rfl
theorem DenL.cons {d : PyData} {v : V} {ds : List PyData} {vs : List V} (h : Den K H d v) (h' : DenL K H ds vs) : DenL K H (d :: ds) (v :: vs) := by
  unfold DenL
  exact ⟨v, vs, rfl, h, h'⟩
theorem DenL.nil : DenL K H [] [] := by
  unfold DenL
  rfl
theorem DenL.get : ∀ {ds : List PyData} {vs : List V} {i : Nat} {d : PyData}, DenL K H ds vs → ds[i]? = some d → ∃ v, vs[i]? = some v ∧ Den K H d v
  | [], vs, i, d, h, e => by simp at e
  | d0 :: ds, vs, 0, d, h, e => by
    unfold DenL at h
    obtain ⟨v, r, e', h1, h2⟩ := h
    simp at e
    subst e
    exact ⟨v, by rw [e']; rfl, h1⟩
  | d0 :: ds, vs, i + 1, d, h, e => by
    unfold DenL at h
    obtain ⟨v, r, e', h1, h2⟩ := h
    obtain ⟨w, e2, h3⟩ := DenL.get (i := i) (d := d) h2 (by simpa using e)
    exact ⟨w, by rw [e']; simpa using e2, h3⟩
theorem DenL.get' : ∀ {ds : List PyData} {vs : List V} {i : Nat} {v : V}, DenL K H ds vs → vs[i]? = some v → ∃ d, ds[i]? = some d ∧ Den K H d v
  | [], vs, i, v, h, e => by
    unfold DenL at h
    rw [h] at e
    simp at e
  | d0 :: ds, vs, 0, v, h, e => by
    unfold DenL at h
    obtain ⟨v', r, e', h1, h2⟩ := h
    rw [e'] at e
    simp at e
    subst e
    exact ⟨d0, rfl, h1⟩
  | d0 :: ds, vs, i + 1, v, h, e => by
    unfold DenL at h
    obtain ⟨v', r, e', h1, h2⟩ := h
    rw [e'] at e
    obtain ⟨w, e2, h3⟩ := DenL.get' (i := i) (v := v) h2 (by simpa using e)
    exact ⟨w, by simpa using e2, h3⟩
theorem DenL.take : ∀ {ds : List PyData} {vs : List V} (n : Nat), DenL K H ds vs → DenL K H (ds.take n) (vs.take n)
  | [], vs, n, h => by
    unfold DenL at h
    rw [h]
    simpa using DenL.nil
  | d :: ds, vs, 0, h => by simpa using DenL.nil
  | d :: ds, vs, n + 1, h => by
    unfold DenL at h
    obtain ⟨v, r, e, h1, h2⟩ := h
    rw [e, List.take_succ_cons, List.take_succ_cons]
    exact DenL.cons h1 (DenL.take n h2)
theorem DenL.drop : ∀ {ds : List PyData} {vs : List V} (n : Nat), DenL K H ds vs → DenL K H (ds.drop n) (vs.drop n)
  | [], vs, n, h => by
    unfold DenL at h
    rw [h]
    simpa using DenL.nil
  | d :: ds, vs, 0, h => by simpa using h
  | d :: ds, vs, n + 1, h => by
    unfold DenL at h
    obtain ⟨v, r, e, h1, h2⟩ := h
    rw [e, List.drop_succ_cons, List.drop_succ_cons]
    exact DenL.drop n h2
theorem DenL.reverse : ∀ {ds : List PyData} {vs : List V}, DenL K H ds vs → DenL K H ds.reverse vs.reverse
  | [], vs, h => by
    unfold DenL at h
    rw [h]
    simpa using DenL.nil
  | d :: ds, vs, h => by
    unfold DenL at h
    obtain ⟨v, r, e, h1, h2⟩ := h
    rw [e, List.reverse_cons, List.reverse_cons]
    exact (DenL.reverse h2).append (DenL.one h1)
theorem DenL.set : ∀ {ds : List PyData} {vs : List V} (i : Nat) {d : PyData} {v : V}, DenL K H ds vs → Den K H d v → DenL K H (ds.set i d) (vs.set i v)
  | [], vs, i, d, v, h, _ => by
    unfold DenL at h
    rw [h]
    simpa using DenL.nil
  | d0 :: ds, vs, 0, d, v, h, hd => by
    unfold DenL at h
    obtain ⟨v', r, e, h1, h2⟩ := h
    rw [e]
    exact DenL.cons hd h2
  | d0 :: ds, vs, i + 1, d, v, h, hd => by
    unfold DenL at h
    obtain ⟨v', r, e, h1, h2⟩ := h
    rw [e]
    exact DenL.cons h1 (DenL.set i h2 hd)
theorem DenL.erase : ∀ {ds : List PyData} {vs : List V} (i : Nat), DenL K H ds vs → DenL K H (ds.eraseIdx i) (vs.eraseIdx i)
  | [], vs, i, h => by
    unfold DenL at h
    rw [h]
    simpa using DenL.nil
  | d0 :: ds, vs, 0, h => by
    unfold DenL at h
    obtain ⟨v', r, e, h1, h2⟩ := h
    rw [e]
    exact h2
  | d0 :: ds, vs, i + 1, h => by
    unfold DenL at h
    obtain ⟨v', r, e, h1, h2⟩ := h
    rw [e]
    exact DenL.cons h1 (DenL.erase i h2)
end

/-! ### the invariant of a frame -/
def SrcOk (G : Gh) (H : Hp) (S : Src) : Prop := G.a0 ≠ G.c0 ∧ H G.a0 = some (.lst [.ref G.c0, .int S.turn]) ∧ H G.c0 = some (.lst (S.cells.map V.int))
/-- all but the source stands -/
def Ext (G : Gh) (H H' : Hp) : Prop := ∀ a o, H a = some o → a ≠ G.a0 → a ≠ G.c0 → H' a = some o
theorem Ext.refl (G : Gh) (H : Hp) : Ext G H H := fun _ _ h _ _ => h
theorem Ext.trans {G : Gh} {H H1 H2 : Hp} (a : Ext G H H1) (b : Ext G H1 H2) : Ext G H H2 := fun c o h n m => b c o (a c o h n m) n m
theorem Ext.of_same {G : Gh} {H H' : Hp} (s : Same H H') : Ext G H H' := fun a o h _ _ => s a o h
/-- attributes, as data -/
def DenF (K : PySem.W.Frag) (H : Hp) (f : Flds) (fs : List (Str × V)) : Prop := ∀ n, match f.lookup n with
  | some d => ∃ v, fs.lookup n = some v ∧ DenV K H d v
  | none => fs.lookup n = none
/-- an exception object of the class at C, its own dict -/
def ExV (C : Addr) (d : Option Addr) (a : Addr) : HO := .ext fun h => ∃ (oe : Obj) (vs : Array Value), h.get? a = some oe ∧ Zc (.ref C) d oe ∧ oe.data = .fields vs
/-- the own dict of an exception holds these -/
def ExF (K : PySem.W.Frag) (H : Hp) (f : Flds) (d : Option Addr) : Prop := (d = none ∧ f = []) ∨ ∃ dd fs, d = some dd ∧ H dd = some (.xd fs) ∧ DenF K H f fs
/-- what data rest on -/
structure KM where
  K : PySem.W.Frag
  mg : Str → Option Value
abbrev _root_.L2.Cx.km (X : Cx) : KM := ⟨X.K, X.mg⟩
def Den2 (X : KM) (G : Gh) (H : Hp) (x : Vl) (v : V) : Prop := match x with
  | .dat d => Den X.K H d v
  | .dic kvs => DenD X.K H kvs v
  | .src => v = .ref G.a0
  | .ins c f => ∃ a C dx fs, v = .ref a ∧ X.mg c = some (.ref C) ∧ H a = some (.ins C dx fs) ∧ DenF X.K H f fs
  | .exc c f => ∃ a C d, v = .ref a ∧ X.mg c = some (.ref C) ∧ H a = some (ExV C d a) ∧ ExF X.K H f d
/-- an own list or dict -/
def OwnD (K : PySem.W.Frag) (H : Hp) (a : Addr) (d : Vl) : Prop := match d with
  | .dat (.list ds) => ∃ xs, H a = some (.lst xs) ∧ DenL K H ds xs
  | .dic kvs => (∃ ks, H a = some (.dK ks) ∧ DenK K H kvs ks) ∨ ∃ ks, H a = some (.dT ks) ∧ DenT K H kvs ks
  | _ => False
def SlOk (X : KM) (G : Gh) (H : Hp) (o : Option (Option V)) (s : Sl) : Prop := match s with
  | .no => True
  | .fz x => ∃ v, o = some (some v) ∧ Den2 X G H x v
  | .ow d => ∃ a, o = some (some (.ref a)) ∧ G.H0 a = none ∧ OwnD X.K H a d
structure EO (X : KM) (G : Gh) (H : Hp) (σ : St) (ρ : En) (S : Src) : Prop where
  same : Ext G G.H0 H
  src0 : G.H0 G.a0 ≠ none ∧ G.H0 G.c0 ≠ none
  src : SrcOk G H S
  len : σ.length = ρ.length
  slot : ∀ (i : Nat) (s : Sl), ρ[i]? = some s → SlOk X G H σ[i]? s
  apart : ∀ (i j : Nat) (d e : Vl) (a : Addr), i ≠ j → ρ[i]? = some (.ow d) → ρ[j]? = some (.ow e) → σ[i]? = some (some (.ref a)) → σ[j]? = some (some (.ref a)) → False
section
variable {X : KM} {G : Gh} {H H' : Hp} {σ : St} {ρ : En} {S S' : Src}
theorem Ext.pers (h : SrcOk G H S) (e : Ext G H H') : Pers H H' := by
  obtain ⟨_, h1, h2⟩ := h
  refine ⟨fun a xs q => e a _ q (fun z => ?_) (fun z => ?_), fun a o u q => e a _ q (fun z => ?_) (fun z => ?_)⟩
  · rw [z, h1] at q; cases q
  · rw [z, h2] at q; cases q
  · rw [z, h1] at q; cases q
  · rw [z, h2] at q; cases q
theorem DenF.pers {K : PySem.W.Frag} (p : Pers H H') {f : Flds} {fs : List (Str × V)} (h : DenF K H f fs) : DenF K H' f fs := fun n => by
  have q := h n
  cases e : f.lookup n with
  | none =>
    rw [e] at q
    exact q
  | some d =>
    rw [e] at q
    obtain ⟨v, e1, e2⟩ := q
    exact ⟨v, e1, e2.pers p⟩
theorem OwnD.pers {K : PySem.W.Frag} (p : Pers H H') {a : Addr} {d : Vl} (ha : H' a = H a) (h : OwnD K H a d) : OwnD K H' a d := by
  unfold OwnD at h ⊢
  split at h
  · obtain ⟨xs, e, r⟩ := h
    exact ⟨xs, by rw [ha]; exact e, DenL.pers p _ _ r⟩
  · rcases h with ⟨ks, e, r⟩ | ⟨ks, e, r⟩
    · exact .inl ⟨ks, by rw [ha]; exact e, DenK.pers p _ _ r⟩
    · exact .inr ⟨ks, by rw [ha]; exact e, DenT.pers p _ _ r⟩
  · exact h.elim
theorem OwnD.some {K : PySem.W.Frag} {a : Addr} {d : Vl} (h : OwnD K H a d) : ∃ u, H a = some u ∧ Mut (some u) ∧ (∀ o w, u ≠ .frz o w) ∧ (∀ xs, u ≠ .tup xs) := by
  unfold OwnD at h
  split at h
  · obtain ⟨xs, e, r⟩ := h; exact ⟨_, e, trivial, (fun _ _ z => nomatch z), fun _ z => nomatch z⟩
  · rcases h with ⟨ks, e, r⟩ | ⟨ks, e, r⟩
    · exact ⟨_, e, trivial, (fun _ _ z => nomatch z), fun _ z => nomatch z⟩
    · exact ⟨_, e, trivial, (fun _ _ z => nomatch z), fun _ z => nomatch z⟩
  · exact h.elim
/-- a value stays while all but the source stands -/
theorem Den2.ext (hs : SrcOk G H S) (e : Ext G H H') {x : Vl} {v : V} (h : Den2 X G H x v) : Den2 X G H' x v := by
  have p := Ext.pers hs e
  cases x with
  | dat d => exact Den.pers p d v h
  | dic kvs => exact DenD.pers p h
  | src => exact h
  | ins c f =>
    obtain ⟨a, C, dx, fs, e1, e2, e3, e4⟩ := h
    refine ⟨a, C, dx, fs, e1, e2, e a _ e3 (fun z => ?_) (fun z => ?_), e4.pers p⟩
    · rw [z, hs.2.1] at e3; cases e3
    · rw [z, hs.2.2] at e3; cases e3
  | exc c f =>
    obtain ⟨a, C, d, e1, e2, e3, e4⟩ := h
    refine ⟨a, C, d, e1, e2, e a _ e3 (fun z => ?_) (fun z => ?_), ?_⟩
    · rw [z, hs.2.1] at e3; cases e3
    · rw [z, hs.2.2] at e3; cases e3
    · rcases e4 with e4 | ⟨dd, fs, e5, e6, e7⟩
      · exact .inl e4
      · refine .inr ⟨dd, fs, e5, e dd _ e6 (fun z => ?_) (fun z => ?_), e7.pers p⟩
        · rw [z, hs.2.1] at e6; cases e6
        · rw [z, hs.2.2] at e6; cases e6
/-- the frame's word goes on over what an expression does -/
theorem EO.ext (h : EO X G H σ ρ S) (e : Ext G H H') (hs : SrcOk G H' S') : EO X G H' σ ρ S' where
  same := h.same.trans e
  src0 := h.src0
  src := hs
  len := h.len
  apart := h.apart
  slot := fun i s hi => by
    have q := h.slot i s hi
    cases s with
    | no => trivial
    | fz x =>
      obtain ⟨v, e1, e2⟩ := q
      exact ⟨v, e1, e2.ext h.src e⟩
    | ow d =>
      obtain ⟨a, e1, e2, e3⟩ := q
      refine ⟨a, e1, e2, e3.pers (Ext.pers h.src e) ?_⟩
      obtain ⟨u, eu, _⟩ := e3.some
      rw [eu]
      exact e a u eu (fun z => h.src0.1 (z ▸ e2)) (fun z => h.src0.2 (z ▸ e2))
end

/-! ### the canonical readings -/
/-- what an expression's value is known to be -/
abbrev Rl := KM → Gh → Hp → Hp → Vl → V → Prop
/-- shared -/
def DF : Rl := fun X G _ H' x v => Den2 X G H' x v
/-- new, and nobody else's (a number, a text, a tuple: shared as well) -/
def DN : Rl := fun X G H H' x v => (x.box = true ∧ ∃ a, v = .ref a ∧ H a = none ∧ OwnD X.K H' a x) ∨ (x.box = false ∧ Den2 X G H' x v)
/-- shared, or a local name's own that is looked at -/
def DB : Rl := fun X G _ H' x v => Den2 X G H' x v ∨ ∃ a, v = .ref a ∧ a ≠ G.a0 ∧ a ≠ G.c0 ∧ OwnD X.K H' a x
/-- an exception, as data -/
def ExnD (X : KM) (H : Hp) (c : Str) (f : Flds) (cls : Value) (d : Option Addr) : Prop := ∃ C, X.mg c = some (.ref C) ∧ cls = .ref C ∧ ExF X.K H f d
def TR (R : Rl) (X : KM) (G : Gh) (W : WX) (f : EF) : TE := fun σ H Q => ∃ ρ S, EO X G H σ ρ S ∧ match f ρ S with
  | .ok x S' => ∀ v H', Ext G H H' → SrcOk G H' S' → R X G H H' x v → Q v H'
  | .exn c a S' => ∀ cls d H', Ext G H H' → SrcOk G H' S' → ExnD X H' c a cls d → W cls d σ H'
  | .stuck => False
def TT1 (X : KM) (G : Gh) (W : WX) (f : BF) : TT := fun σ H Q => ∃ ρ S, EO X G H σ ρ S ∧ match f ρ S with
  | .ok b S' => ∀ H', Ext G H H' → SrcOk G H' S' → Q b H'
  | .exn c a S' => ∀ cls d H', Ext G H H' → SrcOk G H' S' → ExnD X H' c a cls d → W cls d σ H'
  | .stuck => False
/-- argument lists -/
abbrev AF := En → Src → Out (List Vl)
def AllD (X : KM) (G : Gh) (H : Hp) : List Vl → List V → Prop := Paired fun x v => Den2 X G H x v
def AllB (X : KM) (G : Gh) (H : Hp) : List Vl → List V → Prop := Paired fun x v => DB X G H H x v
def TA1 (P : KM → Gh → Hp → List Vl → List V → Prop) (X : KM) (G : Gh) (W : WX) (f : AF) : TA := fun σ H Q => ∃ ρ S, EO X G H σ ρ S ∧ match f ρ S with
  | .ok x S' => ∀ v H', Ext G H H' → SrcOk G H' S' → P X G H' x v → Q v H'
  | .exn c a S' => ∀ cls d H', Ext G H H' → SrcOk G H' S' → ExnD X H' c a cls d → W cls d σ H'
  | .stuck => False
/-- weaker readings -/
theorem PE.weak {X : Cx} {e : Expr} {t t' : TE} (h : PE X e t) (w : ∀ σ H Q, t' σ H Q → t σ H Q) : PE X e t' := ⟨fun pins s σ H Q I q => h.run pins s σ H Q I (w _ _ _ q)⟩
theorem PT.weak {X : Cx} {e : Expr} {t t' : TT} (h : PT X e t) (w : ∀ σ H Q, t' σ H Q → t σ H Q) : PT X e t' := ⟨fun pins s σ H Q I q => h.run pins s σ H Q I (w _ _ _ q)⟩
theorem PA.weak {X : Cx} {e : List Expr} {t t' : TA} (h : PA X e t) (w : ∀ σ H Q, t' σ H Q → t σ H Q) : PA X e t' := ⟨fun pos pins s σ H Q I q => h.run pos pins s σ H Q I (w _ _ _ q)⟩
theorem PS.weak {X : Cx} {e : Stmt} {t t' : TS} (h : PS X e t) (w : ∀ D σ H, t' D σ H → t D σ H) : PS X e t' := ⟨fun pins s σ H D I q => h.run pins s σ H D I (w _ _ _ q)⟩
theorem PSs.weak {X : Cx} {e : List Stmt} {t t' : TS} (h : PSs X e t) (w : ∀ D σ H, t' D σ H → t D σ H) : PSs X e t' := ⟨fun pins s σ H D I q => h.run pins s σ H D I (w _ _ _ q)⟩

/-- the judgements -/
def DE (X : Cx) (G : Gh) (W : WX) (e : Expr) (f : EF) : Prop := PE X e (TR DF X.km G W f)
def DO (X : Cx) (G : Gh) (W : WX) (e : Expr) (f : EF) : Prop := PE X e (TR DN X.km G W f)
def DV (X : Cx) (G : Gh) (W : WX) (e : Expr) (f : EF) : Prop := PE X e (TR DB X.km G W f)
def DT (X : Cx) (G : Gh) (W : WX) (e : Expr) (f : BF) : Prop := PT X e (TT1 X.km G W f)
def DAs (X : Cx) (G : Gh) (W : WX) (e : List Expr) (f : AF) : Prop := PA X e (TA1 AllD X.km G W f)
def DAv (X : Cx) (G : Gh) (W : WX) (e : List Expr) (f : AF) : Prop := PA X e (TA1 AllB X.km G W f)
section
variable {X : Cx} {G : Gh} {W : WX} {e : Expr} {f : EF}
theorem TR.imp {X : KM} {R R' : Rl} {σ : St} {H : Hp} {Q Q' : VK} (h : TR R X G W f σ H Q) (w : ∀ x v H' S S', SrcOk G H S → SrcOk G H' S' → R' X G H H' x v → R X G H H' x v) (q : ∀ v H', Q v H' → Q' v H') : TR R' X G W f σ H Q' := by
  obtain ⟨ρ, S, eo, h⟩ := h
  refine ⟨ρ, S, eo, ?_⟩
  cases ef : f ρ S with
  | ok x S' => rw [ef] at h; exact fun v H' e1 e2 r => q _ _ (h v H' e1 e2 (w _ _ _ _ _ eo.src e2 r))
  | exn c a S' => rw [ef] at h; exact h
  | stuck => rw [ef] at h; exact h
theorem de_v (h : DE X G W e f) : DV X G W e f := PE.weak h fun σ H Q q => TR.imp q (fun _ _ _ _ _ _ _ r => .inl r) fun _ _ z => z
theorem DN.b {X : KM} {G : Gh} {H H' : Hp} {S : Src} {x : Vl} {v : V} (hs : SrcOk G H S) (h : DN X G H H' x v) : DB X G H H' x v := by
  have na : ∀ a : Addr, H a = none → a ≠ G.a0 ∧ a ≠ G.c0 := fun a e => ⟨fun z => (by rw [z, hs.2.1] at e; cases e), fun z => (by rw [z, hs.2.2] at e; cases e)⟩
  rcases h with ⟨_, a, e1, e2, e3⟩ | ⟨_, h⟩
  · exact .inr ⟨a, e1, (na a e2).1, (na a e2).2, e3⟩
  · exact .inl h
theorem do_v (h : DO X G W e f) : DV X G W e f := PE.weak h fun σ H Q q => TR.imp q (fun _ _ _ _ _ hs _ r => r.b hs) fun _ _ z => z
/-- a new list that nobody owns is frozen -/
theorem do_e (h : DO X G W e f) : DE X G W e f := by
  refine ⟨fun pins s σ H Q I q => ?_⟩
  obtain ⟨ρ, S, eo, q⟩ := q
  have fz : ∀ (x : Vl) (S' : Src) (s' : Shared) (v : V) (u : Value) (H' : Hp), Inv X pins σ H' s' → RelV v u → Ext G H H' → SrcOk G H' S' → DN X.km G H H' x v → (∀ v H', Ext G H H' → SrcOk G H' S' → DF X.km G H H' x v → Q v H') → EP X pins σ Q u s' := by
    intro x S' s' v u H' I' rv ex sk dn k
    have lk : ∀ a d, H a = none → OwnD X.K H' a d → v = .ref a → x = d → EP X pins σ Q u s' := by
      intro a d ha od ev exd
      obtain ⟨w, ew, mu, nf, nt⟩ := od.some
      obtain ⟨ob, I2⟩ := I'.lock ew mu
      have na0 : G.a0 ≠ a := fun z => by rw [← z] at ha; rw [eo.src.2.1] at ha; cases ha
      have nc0 : G.c0 ≠ a := fun z => by rw [← z] at ha; rw [eo.src.2.2] at ha; cases ha
      have p2 : Pers H' (upd H' a (.frz ob w)) := by
        refine ⟨fun b xs z => ?_, fun b o u z => ?_⟩
        · rw [upd_ne (fun y => by rw [y, ew] at z; exact nt _ (Option.some.inj z))]; exact z
        · rw [upd_ne (fun y => by rw [y, ew] at z; exact nf _ _ (Option.some.inj z))]; exact z
      have ex2 : Ext G H (upd H' a (.frz ob w)) := fun b o z n m => by
        rw [upd_ne (fun y => by rw [y, ha] at z; cases z)]
        exact ex b o z n m
      refine ⟨v, _, I2, rv, k v _ ex2 ⟨sk.1, by rw [upd_ne na0]; exact sk.2.1, by rw [upd_ne nc0]; exact sk.2.2⟩ ?_⟩
      subst ev exd
      show Den2 X.km G (upd H' a (.frz ob w)) x (.ref a)
      unfold OwnD at od
      split at od
      · obtain ⟨xs, e1, e2⟩ := od
        rw [ew] at e1; cases e1
        show Den X.K _ _ _
        unfold Den
        exact ⟨a, xs, rfl, ⟨ob, upd_same⟩, DenL.pers p2 _ _ e2⟩
      · rcases od with ⟨ks, e1, e2⟩ | ⟨ks, e1, e2⟩
        · rw [ew] at e1; cases e1
          exact ⟨a, rfl, .inl ⟨ob, ks, upd_same, DenK.pers p2 _ _ e2⟩⟩
        · rw [ew] at e1; cases e1
          exact ⟨a, rfl, .inr ⟨ob, ks, upd_same, DenT.pers p2 _ _ e2⟩⟩
      · exact od.elim
    rcases dn with ⟨_, a, e1, e2, e3⟩ | ⟨_, dn⟩
    · exact lk a _ e2 e3 e1 rfl
    · exact ⟨v, H', I', rv, k v H' ex sk dn⟩
  have q2 : TR DN X.km G W f σ H (fun v H' => ∃ x S', f ρ S = .ok x S' ∧ Ext G H H' ∧ SrcOk G H' S' ∧ DN X.km G H H' x v) := by
    refine ⟨ρ, S, eo, ?_⟩
    cases ef : f ρ S with
    | ok x S' => exact fun v H' a b c => ⟨x, S', rfl, a, b, c⟩
    | exn c a S' => rw [ef] at q; exact q
    | stuck => rw [ef] at q; exact q
  refine thn (h.run pins s σ H _ I q2) fun u s1 ⟨v, H1, I1, r1, x, S', ef, a, b, c⟩ => ?_
  rw [ef] at q
  exact fz x S' s1 v u H1 I1 r1 a b c q
end
end L2.HL

namespace L2.HL
open PySem PySem.Spec PyProof.Rows

/-! ### looking at data -/
section
variable {X : KM} {G : Gh} {H H0 H' : Hp} {S S' : Src} {v : V}
theorem DB.ext (hs : SrcOk G H S) (e : Ext G H H') {x : Vl} (h : DB X G H0 H x v) : DB X G H0 H' x v := by
  rcases h with h | ⟨a, e1, n1, n2, od⟩
  · exact .inl (h.ext hs e)
  · obtain ⟨u, eu, _⟩ := od.some
    exact .inr ⟨a, e1, n1, n2, od.pers (Ext.pers hs e) (by rw [eu]; exact e a u eu n1 n2)⟩
theorem DB.at {x : Vl} {H1 : Hp} (h : DB X G H0 H x v) : DB X G H1 H x v := h
theorem DB.int {i : Int} (h : DB X G H0 H (.dat (.int i)) v) : v = .int i := by
  rcases h with h | ⟨a, _, _, _, od⟩
  · simpa [Den2, Den] using h
  · exact od.elim
theorem DB.str {i : Str} (h : DB X G H0 H (.dat (.str i)) v) : v = .str i := by
  rcases h with h | ⟨a, _, _, _, od⟩
  · simpa [Den2, Den] using h
  · exact od.elim
theorem DB.bl {i : Bool} (h : DB X G H0 H (.dat (.bool i)) v) : v = .bl i := by
  rcases h with h | ⟨a, _, _, _, od⟩
  · simpa [Den2, Den] using h
  · exact od.elim
theorem DB.non (h : DB X G H0 H (.dat .none) v) : v = .non := by
  rcases h with h | ⟨a, _, _, _, od⟩
  · simpa [Den2, Den] using h
  · exact od.elim
theorem DB.list {ds : List PyData} (h : DB X G H0 H (.dat (.list ds)) v) : ∃ a xs, v = .ref a ∧ Rd H a (.lst xs) ∧ DenL X.K H ds xs := by
  rcases h with h | ⟨a, e, _, _, od⟩
  · unfold Den2 at h
    simp only at h
    unfold Den at h
    obtain ⟨a, xs, e, ⟨o, hf⟩, hd⟩ := h
    exact ⟨a, xs, e, .inr ⟨o, hf⟩, hd⟩
  · obtain ⟨xs, e2, hd⟩ := od
    exact ⟨a, xs, e, .inl e2, hd⟩
theorem DB.tup {ds : List PyData} (h : DB X G H0 H (.dat (.tuple ds)) v) : ∃ a xs, v = .ref a ∧ TpT X.K H a xs ∧ DenL X.K H ds xs := by
  rcases h with h | ⟨a, e, _, _, od⟩
  · unfold Den2 at h
    simp only at h
    unfold Den at h
    exact h
  · exact od.elim
theorem DB.dict {kvs : List (PyData × PyData)} (h : DB X G H0 H (.dat (.dict kvs)) v) : False := by
  rcases h with h | ⟨a, e, _, _, od⟩
  · unfold Den2 at h
    simp only at h
    unfold Den at h
    exact h
  · exact od.elim
mutual
theorem Den.dp {K : PySem.W.Frag} : ∀ (d : PyData) (v : V), Den K H d v → Dp K H v d
  | .none, v, h => by unfold Den at h; subst h; exact .non
  | .bool b, v, h => by unfold Den at h; subst h; exact .bl b
  | .int b, v, h => by unfold Den at h; subst h; exact .int b
  | .str b, v, h => by unfold Den at h; subst h; exact .str b
  | .list ds, v, h => by
    unfold Den at h
    obtain ⟨a, xs, e, hf, hd⟩ := h
    subst e
    exact .lst hf.sq (DenL.dp ds xs hd)
  | .tuple ds, v, h => by
    unfold Den at h
    obtain ⟨a, xs, e, hf, hd⟩ := h
    subst e
    exact .tup hf.sq (DenL.dp ds xs hd)
  | .dict ds, v, h => by
    unfold Den at h
    exact h.elim
theorem DenL.dp {K : PySem.W.Frag} : ∀ (ds : List PyData) (vs : List V), DenL K H ds vs → DpAll K H vs ds
  | [], vs, h => by unfold DenL at h; subst h; exact .nil
  | d :: ds, vs, h => by
    unfold DenL at h
    obtain ⟨v, r, e, h1, h2⟩ := h
    subst e
    exact .cons (Den.dp d v h1) (DenL.dp ds r h2)
end
theorem DB.dp {d : PyData} (h : DB X G H0 H (.dat d) v) : Dp X.K H v d := by
  rcases h with h | ⟨a, e, _, _, od⟩
  · exact Den.dp d v h
  · cases d with
    | list ds =>
      obtain ⟨xs, e2, hd⟩ := od
      subst e
      exact .lst (SqL.of e2) (DenL.dp ds xs hd)
    | _ => exact od.elim
theorem DB.plain {d : PyData} (h : DB X G H0 H (.dat d) v) : d.plain = true := by
  rcases h with h | ⟨a, e, _, _, od⟩
  · exact Den.plain d v h
  · cases d with
    | list ds =>
      obtain ⟨xs, e2, hd⟩ := od
      rw [PyData.plain]
      exact DenL.plain ds xs hd
    | _ => exact od.elim
theorem Same.pers {H H' : Hp} (s : Same H H') : Pers H H' := ⟨fun a _ h => s a _ h, fun a _ _ h => s a _ h⟩
theorem same_new {p : Addr} {o : HO} (h : H p = none) : Same H (upd H p o) := fun b x e => by
  rw [upd_ne (ne_of_none e h)]
  exact e
theorem ext_src {G : Gh} (hs : SrcOk G H S) (s : Same H H') : SrcOk G H' S := ⟨hs.1, s _ _ hs.2.1, s _ _ hs.2.2⟩
/-- a new list -/
theorem DN.lst {p : Addr} {ds : List PyData} {xs : List V} (hp : H p = none) (hd : DenL X.K H ds xs) : DN X G H (upd H p (.lst xs)) (.dat (.list ds)) (.ref p) :=
  .inl ⟨rfl, p, rfl, hp, xs, upd_same, DenL.pers (Same.pers (same_new hp)) _ _ hd⟩
theorem DN.tup {p : Addr} {ds : List PyData} {xs : List V} (hp : H p = none) (hd : DenL X.K H ds xs) : DN X G H (upd H p (.tup xs)) (.dat (.tuple ds)) (.ref p) := by
  refine .inr ⟨rfl, ?_⟩
  show Den _ _ _ _
  unfold Den
  exact ⟨p, xs, rfl, .inl upd_same, DenL.pers (Same.pers (same_new hp)) _ _ hd⟩
theorem DN.tupOld {a : Addr} {ds : List PyData} {xs : List V} (ht : TpT X.K H a xs) (hd : DenL X.K H ds xs) : DN X G H H (.dat (.tuple ds)) (.ref a) := by
  refine .inr ⟨rfl, ?_⟩
  show Den _ _ _ _
  unfold Den
  exact ⟨a, xs, rfl, ht, hd⟩
end

/-! ### names and constants -/
def fVar (i : Nat) : EF := fun ρ S => match ρ[i]? with
  | some (.fz x) => .ok x S
  | _ => .stuck
/-- a name, looked at -/
def fVarV (i : Nat) : EF := fun ρ S => match ρ[i]? with
  | some (.fz x) => .ok x S
  | some (.ow d) => .ok d S
  | _ => .stuck
def fC (d : PyData) : EF := fun _ S => .ok (.dat d) S
section
variable {X : Cx} {G : Gh} {W : WX} {pos : Pos}
theorem dVar {x : Str} (i : Nat) (hN : X.N[i]? = some x := by rfl) (hv : Vis X.env.scope x := by first | exact Or.inl rfl | exact Or.inr (Or.inl rfl) | exact Or.inr (Or.inr rfl)) (hd : (x == ("__debug__" : Str)) = false := by decide)
    (hcd : (x == ("__classdict__" : Str)) = false := by decide) : DE X G W (.Name x pos) (fVar i) := PE.weak (pe_var hN hv hd hcd) fun σ H Q q => by
  obtain ⟨ρ, S, eo, q⟩ := q
  unfold fVar at q
  cases e : ρ[i]? with
  | none => rw [e] at q; exact q.elim
  | some s =>
    rw [e] at q
    cases s with
    | no => exact q.elim
    | ow d => exact q.elim
    | fz x =>
      obtain ⟨v, e1, e2⟩ := eo.slot i _ e
      exact ⟨v, e1, q v H (Ext.refl G H) eo.src e2⟩
theorem dVarV {x : Str} (i : Nat) (hN : X.N[i]? = some x := by rfl) (hv : Vis X.env.scope x := by first | exact Or.inl rfl | exact Or.inr (Or.inl rfl) | exact Or.inr (Or.inr rfl)) (hd : (x == ("__debug__" : Str)) = false := by decide)
    (hcd : (x == ("__classdict__" : Str)) = false := by decide) : DV X G W (.Name x pos) (fVarV i) := PE.weak (pe_var hN hv hd hcd) fun σ H Q q => by
  obtain ⟨ρ, S, eo, q⟩ := q
  unfold fVarV at q
  cases e : ρ[i]? with
  | none => rw [e] at q; exact q.elim
  | some s =>
    rw [e] at q
    cases s with
    | no => exact q.elim
    | ow d =>
      obtain ⟨a, e1, e2, e3⟩ := eo.slot i _ e
      exact ⟨_, e1, q _ H (Ext.refl G H) eo.src (.inr ⟨a, rfl, fun z => eo.src0.1 (z ▸ e2), fun z => eo.src0.2 (z ▸ e2), e3⟩)⟩
    | fz x =>
      obtain ⟨v, e1, e2⟩ := eo.slot i _ e
      exact ⟨v, e1, q v H (Ext.refl G H) eo.src (.inl e2)⟩
theorem dC {e : Expr} {d : PyData} {v : V} (h : PE X e (tC v)) (hd : ∀ H, DN X.km G H H (.dat d) v) : DO X G W e (fC d) := PE.weak h fun σ H Q q => by
  obtain ⟨ρ, S, eo, q⟩ := q
  exact q v H (Ext.refl G H) eo.src (hd H)
theorem dInt {i : Int} {j : Nat} : DO X G W (.Constant (.int i) j pos) (fC (.int i)) := dC pe_int fun H => by first | (refine .inr ⟨rfl, ?_⟩; show Den _ _ _ _; unfold Den; rfl) | (show Den _ _ _ _; unfold Den; rfl)
theorem dBl {i : Bool} {j : Nat} : DO X G W (.Constant (.bool i) j pos) (fC (.bool i)) := dC pe_bl fun H => by first | (refine .inr ⟨rfl, ?_⟩; show Den _ _ _ _; unfold Den; rfl) | (show Den _ _ _ _; unfold Den; rfl)
theorem dNon {j : Nat} : DO X G W (.Constant .none j pos) (fC .none) := dC pe_non fun H => by first | (refine .inr ⟨rfl, ?_⟩; show Den _ _ _ _; unfold Den; rfl) | (show Den _ _ _ _; unfold Den; rfl)
theorem dStr {x : Str} {j : Nat} : DO X G W (.Constant (.str x) j pos) (fC (.str x)) := dC pe_str fun H => by first | (refine .inr ⟨rfl, ?_⟩; show Den _ _ _ _; unfold Den; rfl) | (show Den _ _ _ _; unfold Den; rfl)
/-- a constant of the module: an int, a text -/
theorem dGlobI {x : Str} {i : Int} (hm : ∃ t, X.mg x = some (.int i t)) (hg : Gl X x := by rfl) (hd : (x == ("__debug__" : Str)) = false := by decide) : DO X G W (.Name x pos) (fC (.int i)) := by
  obtain ⟨t, hm⟩ := hm
  exact dC (pe_glob (v := .int i) hg hm ⟨t, rfl⟩ hd) fun H => by first | (refine .inr ⟨rfl, ?_⟩; show Den _ _ _ _; unfold Den; rfl) | (show Den _ _ _ _; unfold Den; rfl)
theorem dGlobS {x z : Str} (hm : ∃ t, X.mg x = some (.str z t)) (hg : Gl X x := by rfl) (hd : (x == ("__debug__" : Str)) = false := by decide) : DO X G W (.Name x pos) (fC (.str z)) := by
  obtain ⟨t, hm⟩ := hm
  exact dC (pe_glob (v := .str z) hg hm ⟨t, rfl⟩ hd) fun H => by first | (refine .inr ⟨rfl, ?_⟩; show Den _ _ _ _; unfold Den; rfl) | (show Den _ _ _ _; unfold Den; rfl)
end

/-! ### operators by values -/
/-- an operation on two data -/
def rD (X : Cx) (F : Vl → Vl → Option Vl) (G : Gh) : R2 := fun x y H Q => ∃ d e r, DB X.km G H H d x ∧ DB X.km G H H e y ∧ F d e = some r ∧ ∀ v H', Same H H' → DN X.km G H H' r v → Q v H'
/-- an answer, where there is one -/
def ofO {α : Type} (o : Option α) (S : Src) : Out α := match o with
  | some r => .ok r S
  | none => .stuck
@[simp] theorem ofO_some {α : Type} (r : α) (S : Src) : ofO (some r) S = .ok r S := rfl
@[simp] theorem ofO_none {α : Type} (S : Src) : ofO (none : Option α) S = .stuck := rfl
theorem ofO_ok {α : Type} {o : Option α} {S S' : Src} {z : α} (h : ofO o S = .ok z S') : o = some z ∧ S' = S := by
  cases o with
  | none => cases h
  | some r => cases h; exact ⟨rfl, rfl⟩
theorem ofO_exn {α : Type} {o : Option α} {S S' : Src} {c : Str} {a : Flds} : ofO o S ≠ .exn c a S' := by
  intro h
  cases o <;> cases h
def opF (F : Vl → Vl → Option Vl) (x y : Vl) (S : Src) : Out Vl := ofO (F x y) S
def fOp (F : Vl → Vl → Option Vl) (f g : EF) : EF := fun ρ S => (f ρ S).bind fun x S1 => (g ρ S1).bind fun y S2 => opF F x y S2
section
variable {X : Cx} {G : Gh} {W : WX} {a b : Expr} {f g : EF} {pos : Pos}
/-- two expressions, one after the other -/
theorem two_TR {X : KM} {F2 : Vl → Vl → Src → Out Vl} {R : Rl} {σ : St} {H : Hp} {Q : VK} {r : R2}
    (h : TR R X G W (fun ρ S => (f ρ S).bind fun x S1 => (g ρ S1).bind fun y S2 => F2 x y S2) σ H Q)
    (hk : ∀ (x y : Vl) (v u : V) (H1 H2 : Hp) (S S1 S2 : Src), SrcOk G H S → Ext G H H1 → SrcOk G H1 S1 → Ext G H1 H2 → SrcOk G H2 S2 → DB X G H H1 x v → DB X G H H2 x v → DB X G H1 H2 y u →
      (match F2 x y S2 with
        | .ok z S' => ∀ v H', Ext G H H' → SrcOk G H' S' → R X G H H' z v → Q v H'
        | .exn c a S' => ∀ cls d H', Ext G H H' → SrcOk G H' S' → ExnD X H' c a cls d → W cls d σ H'
        | .stuck => False) → r v u H2 Q) : tOp r (TR DB X G W f) (TR DB X G W g) σ H Q := by
  obtain ⟨ρ, S, eo, h⟩ := h
  refine ⟨ρ, S, eo, ?_⟩
  cases ef : f ρ S with
  | stuck => simp only [ef, Out.bind_stuck] at h
  | exn c a S' => simp only [ef, Out.bind_exn] at h; exact h
  | ok x S1 =>
    simp only [ef, Out.bind_ok] at h
    intro v H1 e1 s1 r1
    refine ⟨ρ, S1, eo.ext e1 s1, ?_⟩
    cases eg : g ρ S1 with
    | stuck => simp only [eg, Out.bind_stuck] at h
    | exn c a S' =>
      simp only [eg, Out.bind_exn] at h
      exact fun cls d H' e2 s2 r2 => h cls d H' (e1.trans e2) s2 r2
    | ok y S2 =>
      simp only [eg, Out.bind_ok] at h
      intro u H2 e2 s2 r2
      exact hk x y v u H1 H2 S S1 S2 eo.src e1 s1 e2 s2 r1 (r1.ext s1 e2) r2 h
theorem none_up {H H2 : Hp} {S2 : Src} (e : Ext G H H2) (hs : SrcOk G H2 S2) {a : Addr} (q : H2 a = none) : H a = none := by
  cases z : H a with
  | none => rfl
  | some o =>
    by_cases n1 : a = G.a0
    · rw [n1, hs.2.1] at q; cases q
    · by_cases n2 : a = G.c0
      · rw [n2, hs.2.2] at q; cases q
      · rw [e a o z n1 n2] at q; cases q
theorem dn_up {X : KM} {H H2 H' : Hp} {x : Vl} {v : V} {S2 : Src} (e : Ext G H H2) (hs : SrcOk G H2 S2) (h : DN X G H2 H' x v) : DN X G H H' x v := by
  rcases h with ⟨b, a, e1, e2, e3⟩ | h
  · exact .inl ⟨b, a, e1, none_up e hs e2, e3⟩
  · exact .inr h
/-- a op b -/
theorem dOp {op : Operator} {F : Vl → Vl → Option Vl} (ho : OpR X (binaryOp op) (rD X F G)) (ha : DV X G W a f) (hb : DV X G W b g) : DO X G W (.BinOp a op b pos) (fOp F f g) :=
  PE.weak (pe_op ho ha hb) fun σ H Q q => two_TR (F2 := opF F) q fun x y v u H1 H2 S S1 S2 s0 e1 s1 e2 s2 rx rx2 ry h => by
    unfold opF at h
    cases eo : ofO (F x y) S2 with
    | stuck => rw [eo] at h; exact h.elim
    | exn c a S' => exact absurd eo ofO_exn
    | ok z S' =>
      rw [eo] at h
      obtain ⟨ef, rfl⟩ := ofO_ok eo
      exact ⟨x, y, z, rx2, ry, ef, fun v H' sm dn => h v H' ((e1.trans e2).trans (Ext.of_same sm)) (ext_src s2 sm) (dn_up (e1.trans e2) s2 dn)⟩
/-- a comparison of two data -/
def rC (X : Cx) (F : Vl → Vl → Option Bool) (G : Gh) : R2 := fun x y H Q => ∃ d e r, DB X.km G H H d x ∧ DB X.km G H H e y ∧ F d e = some r ∧ Q (.bl r) H
def cpF (F : Vl → Vl → Option Bool) (x y : Vl) (S : Src) : Out Bool := ofO (F x y) S
def bV (o : Out Bool) : Out Vl := o.bind fun b S => .ok (.dat (.bool b)) S
def fCp (F : Vl → Vl → Option Bool) (f g : EF) : BF := fun ρ S => (f ρ S).bind fun x S1 => (g ρ S1).bind fun y S2 => cpF F x y S2
/-- a truth value as a value -/
def fB (f : BF) : EF := fun ρ S => bV (f ρ S)
/-- a reading with a truth value, as one with a value -/
theorem TT.up {X : KM} {R : Rl} {f : BF} {σ : St} {H : Hp} {Q : VK} (hR : ∀ H' b, Den2 X G H' (.dat (.bool b)) (.bl b) → R X G H H' (.dat (.bool b)) (.bl b)) (h : TR R X G W (fB f) σ H Q) : TT1 X G W f σ H fun b H' => Q (.bl b) H' := by
  obtain ⟨ρ, S, eo, h⟩ := h
  refine ⟨ρ, S, eo, ?_⟩
  unfold fB bV at h
  cases ef : f ρ S with
  | stuck => simp only [ef, Out.bind_stuck] at h
  | exn c a S' => simp only [ef, Out.bind_exn] at h; exact h
  | ok x S1 =>
    simp only [ef, Out.bind_ok] at h
    exact fun H' e s => h (.bl x) H' e s (hR H' x (by first | (refine .inr ⟨rfl, ?_⟩; show Den _ _ _ _; unfold Den; rfl) | (show Den _ _ _ _; unfold Den; rfl)))
theorem two_TT {X : KM} {F2 : Vl → Vl → Src → Out Bool} {σ : St} {H : Hp} {Q : Bool → Hp → Prop} {r : R2} {t : TT}
    (h : TT1 X G W (fun ρ S => (f ρ S).bind fun x S1 => (g ρ S1).bind fun y S2 => F2 x y S2) σ H Q)
    (hk : ∀ (x y : Vl) (v u : V) (H1 H2 : Hp) (S S1 S2 : Src), SrcOk G H S → Ext G H H1 → SrcOk G H1 S1 → Ext G H1 H2 → SrcOk G H2 S2 → DB X G H H1 x v → DB X G H H2 x v → DB X G H1 H2 y u →
      (match F2 x y S2 with
        | .ok z S' => ∀ H', Ext G H H' → SrcOk G H' S' → Q z H'
        | .exn c a S' => ∀ cls d H', Ext G H H' → SrcOk G H' S' → ExnD X H' c a cls d → W cls d σ H'
        | .stuck => False) → r v u H2 fun z H3 => ∃ k, z = .bl k ∧ Q k H3) : tTest (tOp r (TR DB X G W f) (TR DB X G W g)) σ H Q := by
  obtain ⟨ρ, S, eo, h⟩ := h
  refine ⟨ρ, S, eo, ?_⟩
  cases ef : f ρ S with
  | stuck => simp only [ef, Out.bind_stuck] at h
  | exn c a S' => simp only [ef, Out.bind_exn] at h; exact h
  | ok x S1 =>
    simp only [ef, Out.bind_ok] at h
    intro v H1 e1 s1 r1
    refine ⟨ρ, S1, eo.ext e1 s1, ?_⟩
    cases eg : g ρ S1 with
    | stuck => simp only [eg, Out.bind_stuck] at h
    | exn c a S' =>
      simp only [eg, Out.bind_exn] at h
      exact fun cls d H' e2 s2 r2 => h cls d H' (e1.trans e2) s2 r2
    | ok y S2 =>
      simp only [eg, Out.bind_ok] at h
      intro u H2 e2 s2 r2
      exact hk x y v u H1 H2 S S1 S2 eo.src e1 s1 e2 s2 r1 (r1.ext s1 e2) r2 h
/-- a op b as a test -/
theorem dCmpT {op : CmpOp} {F : Vl → Vl → Option Bool} (ho : OpR X (compareOp op) (rC X F G)) (ha : DV X G W a f) (hb : DV X G W b g) (hm : behindInMarks op b = false := by first | exact nobehind _ (by decide) (by decide) | rfl) : DT X G W (.Compare a [op] [b] pos) (fCp F f g) :=
  PT.weak (pt_cmpR ho ha hb hm) fun σ H Q q => two_TT (F2 := cpF F) (t := fun _ _ _ => True) q fun x y v u H1 H2 S S1 S2 s0 e1 s1 e2 s2 rx rx2 ry h => by
    unfold cpF at h
    cases eo : ofO (F x y) S2 with
    | stuck => rw [eo] at h; exact h.elim
    | exn c a S' => exact absurd eo ofO_exn
    | ok z S' =>
      rw [eo] at h
      obtain ⟨ef, rfl⟩ := ofO_ok eo
      exact ⟨x, y, z, rx2, ry, ef, z, rfl, h H2 (e1.trans e2) s2⟩
/-- as a value -/
theorem dCmp {op : CmpOp} {F : Vl → Vl → Option Bool} (ho : OpR X (compareOp op) (rC X F G)) (ha : DV X G W a f) (hb : DV X G W b g) (hm : behindInMarks op b = false := by first | exact nobehind _ (by decide) (by decide) | rfl) : DO X G W (.Compare a [op] [b] pos) (fB (fCp F f g)) :=
  PE.weak (pe_cmpR ho ha hb hm) fun σ H Q q => by
    have q2 : TR DN X.km G W (fun ρ S => (f ρ S).bind fun x S1 => (g ρ S1).bind fun y S2 => bV (cpF F x y S2)) σ H Q := by
      have e : (fun ρ S => (f ρ S).bind fun x S1 => (g ρ S1).bind fun y S2 => bV (cpF F x y S2)) = fB (fCp F f g) := by
        funext ρ S
        unfold fB fCp bV
        rw [Out.bind_assoc]
        congr 1
        funext x S1
        rw [Out.bind_assoc]
      rw [e]
      exact q
    refine two_TR (F2 := fun x y S => bV (cpF F x y S)) q2 fun x y v u H1 H2 S S1 S2 s0 e1 s1 e2 s2 rx rx2 ry h => ?_
    unfold cpF at h
    cases eo : ofO (F x y) S2 with
    | stuck => simp only [bV, eo, Out.bind_stuck] at h
    | exn c a S' => exact absurd eo ofO_exn
    | ok z S' =>
      simp only [bV, eo, Out.bind_ok] at h
      obtain ⟨ef, rfl⟩ := ofO_ok eo
      exact ⟨x, y, z, rx2, ry, ef, h (.bl z) H2 (e1.trans e2) s2 (by first | (refine .inr ⟨rfl, ?_⟩; show Den _ _ _ _; unfold Den; rfl) | (show Den _ _ _ _; unfold Den; rfl))⟩
end
end L2.HL

namespace L2.HL
open PySem PySem.Spec PyProof.Rows

theorem Vl.i_dn {X : KM} {G : Gh} {H H' : Hp} (i : Int) : DN X G H H' (.dat (.int i)) (.int i) := .inr ⟨rfl, by show Den _ _ _ _; unfold Den; rfl⟩
theorem Vl.s_dn {X : KM} {G : Gh} {H H' : Hp} (i : Str) : DN X G H H' (.dat (.str i)) (.str i) := .inr ⟨rfl, by show Den _ _ _ _; unfold Den; rfl⟩
theorem Vl.b_dn {X : KM} {G : Gh} {H H' : Hp} (i : Bool) : DN X G H H' (.dat (.bool i)) (.bl i) := .inr ⟨rfl, by show Den _ _ _ _; unfold Den; rfl⟩
theorem Vl.n_dn {X : KM} {G : Gh} {H H' : Hp} : DN X G H H' (.dat .none) .non := .inr ⟨rfl, by show Den _ _ _ _; unfold Den; rfl⟩
theorem sizeN : (16777216 : Nat) = sizeLine := by rw [sizeLine_eq]
section
variable {X : Cx} {pins : List (Addr × Obj)} {σ : St} {H : Hp} {s : Shared}
/-- the object of a list that is read -/
theorem rd_list {a : Addr} {xs : List V} (I : Inv X pins σ H s) (h : Rd H a (.lst xs)) : xs.length ≤ 16777216 ∧ ∃ (its : List Value) (n : Nat), Vals xs its ∧ s.heap.get? a = some { cls := .type "list", data := .seq its.toArray n } := by
  obtain ⟨z, its, n, r, e⟩ := h.ok I.hok
  exact ⟨by rw [sizeN]; exact z, its, n, r, e⟩
end

/-! ### + -/
def addV : Vl → Vl → Option Vl
  | .dat (.int i), .dat (.int j) => some (.dat (.int (i + j)))
  | .dat (.str x), .dat (.str y) => if x.length + y.length ≤ 16777216 then some (.dat (.str (x ++ y))) else none
  | .dat (.list x), .dat (.list y) => if x.length + y.length ≤ 16777216 then some (.dat (.list (x ++ y))) else none
  | .dat (.tuple x), .dat (.tuple y) => if x.length + y.length ≤ 16777216 then some (.dat (.tuple (x ++ y))) else none
  | _, _ => none
theorem or_add {X : Cx} {G : Gh} : OpR X (binaryOp .Add) (rD X addV G) := by
  intro pins s σ H x y v u Q I rx ry h
  obtain ⟨d, e, r, hd, he, hf, q⟩ := h
  unfold addV at hf
  split at hf
  · cases hf
    have e1 := hd.int
    have e2 := he.int
    subst e1 e2
    exact op_add pins s σ H _ _ v u Q I rx ry ⟨_, _, rfl, rfl, q _ H (Same.refl H) (Vl.i_dn _)⟩
  · split at hf
    · cases hf
      have e1 := hd.str
      have e2 := he.str
      subst e1 e2
      exact op_add_str pins s σ H _ _ v u Q I rx ry ⟨_, _, rfl, rfl, by rw [← sizeN]; assumption, q _ H (Same.refl H) (Vl.s_dn _)⟩
    · cases hf
  · split at hf
    · rename_i l1 l2 hz
      cases hf
      obtain ⟨a, xs, e1, r1, d1⟩ := hd.list
      obtain ⟨b, ys, e2, r2, d2⟩ := he.list
      subst e1 e2
      cases rx
      cases ry
      obtain ⟨z1, its1, n1, rv1, o1⟩ := rd_list I r1
      obtain ⟨z2, its2, n2, rv2, o2⟩ := rd_list I r2
      have l1 : its1.length = l1.length := by rw [← rv1.length, ← d1.length]
      have l2 : its2.length = l2.length := by rw [← rv2.length, ← d2.length]
      refine PySem.P.add_list o1 o2 ?_ (by rw [List.size_toArray, List.size_toArray, ← sizeN]; omega)
      have cat : its1.toArray ++ its2.toArray = (its1 ++ its2).toArray := by simp
      rw [cat]
      refine ⟨.ref s.heap.objs.size, _, I.lnew (t' := s.toks) (rv1.append rv2) (by rw [List.length_append, ← sizeN, rv1.length, rv2.length]; omega), rfl, q _ _ (same_new I.fresh) (DN.lst I.fresh (d1.append d2))⟩
    · cases hf
  · split at hf
    · rename_i l1 l2 hz
      cases hf
      obtain ⟨a, xs, e1, r1, d1⟩ := hd.tup
      obtain ⟨b, ys, e2, r2, d2⟩ := he.tup
      subst e1 e2
      have n1 := d1.length
      have n2 := d2.length
      refine op_catA pins s σ H _ _ v u Q I rx ry ⟨a, b, xs, ys, rfl, rfl, r1.sq, r2.sq, by rw [← sizeN]; omega, fun z => ?_, fun _ z => ?_, fun _ _ p hp => ?_⟩
      · rw [z] at n1
        have : l1 = [] := List.eq_nil_of_length_eq_zero n1
        subst this
        exact q _ H (Same.refl H) (DN.tupOld r2 d2)
      · rw [z] at n2
        have : l2 = [] := List.eq_nil_of_length_eq_zero n2
        subst this
        rw [List.append_nil] at q
        exact q _ H (Same.refl H) (DN.tupOld r1 d1)
      · exact q _ _ (same_new hp) (DN.tup hp (d1.append d2))
    · cases hf
  · cases hf

/-! ### -, *, //, % and ** of ints -/
def intV (C : Int → Int → Bool) (g : Int → Int → Int) : Vl → Vl → Option Vl
  | .dat (.int i), .dat (.int j) => if C i j = true then some (.dat (.int (g i j))) else none
  | _, _ => none
theorem or_int {X : Cx} {G : Gh} {f : Value → Value → Sem Value} {C : Int → Int → Bool} {P : Int → Int → Prop} {g : Int → Int → Int} (h : OpR X f (rI P fun i j => .int (g i j))) (hP : ∀ i j, C i j = true → P i j) : OpR X f (rD X (intV C g) G) := by
  intro pins s σ H x y v u Q I rx ry q
  obtain ⟨d, e, r, hd, he, hf, q⟩ := q
  unfold intV at hf
  split at hf
  · split at hf
    · rename_i hc
      cases hf
      have e1 := hd.int
      have e2 := he.int
      subst e1 e2
      exact h pins s σ H _ _ v u Q I rx ry ⟨_, _, rfl, rfl, hP _ _ hc, q _ H (Same.refl H) (Vl.i_dn _)⟩
    · cases hf
  · cases hf
theorem opI_true {X : Cx} {f : Value → Value → Sem Value} {g : Int → Int → Int} (h : OpR X f (rI0 fun i j => .int (g i j))) : OpR X f (rI (fun _ _ => True) fun i j => .int (g i j)) := by
  intro pins s σ H x y v u Q I rx ry q
  obtain ⟨i, j, e1, e2, _, q⟩ := q
  exact h pins s σ H x y v u Q I rx ry ⟨i, j, e1, e2, q⟩
def subV : Vl → Vl → Option Vl := intV (fun _ _ => true) fun i j => i - j
theorem or_sub {X : Cx} {G : Gh} : OpR X (binaryOp .Sub) (rD X subV G) := or_int (opI_true op_sub) fun _ _ _ => trivial
def fdivV : Vl → Vl → Option Vl := intV (fun _ j => decide (0 < j ∧ j.natAbs < 2 ^ 8000)) fun i j => i / j
theorem or_fdiv {X : Cx} {G : Gh} : OpR X (binaryOp .FloorDiv) (rD X fdivV G) := or_int op_fdivW fun i j h => by
  have := of_decide_eq_true h
  exact wide_div this.1 this.2 (by decide) (by decide)
def modV : Vl → Vl → Option Vl := intV (fun _ j => decide (0 < j)) fun i j => i % j
theorem or_mod {X : Cx} {G : Gh} : OpR X (binaryOp .Mod) (rD X modV G) := or_int op_mod fun i j h => of_decide_eq_true h
def powV : Vl → Vl → Option Vl := intV (fun i j => decide (0 ≤ j ∧ j ≤ 1000000 ∧ i.natAbs < 2 ^ 64)) fun i j => i ^ j.toNat
theorem or_pow {X : Cx} {G : Gh} : OpR X (binaryOp .Pow) (rD X powV G) := or_int op_pow fun i j h => by
  have t := of_decide_eq_true h
  exact t

/-! ### * -/
def mulOk (i j : Int) : Bool := decide ((-(2 ^ 64) < i ∧ i < 2 ^ 64) ∨ (-(2 ^ 64) < j ∧ j < 2 ^ 64)) || decide (i.natAbs < 2 ^ 100000 ∧ j.natAbs < 2 ^ 100000)
def mulV : Vl → Vl → Option Vl
  | .dat (.int i), .dat (.int j) => if mulOk i j = true then some (.dat (.int (i * j))) else none
  | .dat (.list x), .dat (.int j) => if 0 ≤ j ∧ j ≤ 1000 ∧ x.length ≤ 1000 then some (.dat (.list (List.replicate j.toNat x).flatten)) else none
  | .dat (.tuple x), .dat (.int j) => if x ≠ [] ∧ 1 ≤ j ∧ j ≤ 1000 ∧ x.length ≤ 1000 then some (.dat (.tuple (List.replicate j.toNat x).flatten)) else none
  | _, _ => none
theorem DenL.rep {K : PySem.W.Frag} {H : Hp} {ds : List PyData} {vs : List V} (h : DenL K H ds vs) : ∀ n : Nat, DenL K H (List.replicate n ds).flatten (List.replicate n vs).flatten
  | 0 => DenL.nil
  | n + 1 => by
    rw [List.replicate_succ, List.replicate_succ, List.flatten_cons, List.flatten_cons]
    exact h.append (DenL.rep h n)
theorem len_rep {α : Type} (l : List α) : ∀ n : Nat, (List.replicate n l).flatten.length = n * l.length
  | 0 => by simp
  | n + 1 => by
    rw [List.replicate_succ, List.flatten_cons, List.length_append, len_rep l n, Nat.succ_mul, Nat.add_comm]
theorem or_mulI {X : Cx} : OpR X (binaryOp .Mult) (rI (fun i j => mulOk i j = true) fun i j => .int (i * j)) := by
  intro pins s σ H x y v u Q I rx ry q
  obtain ⟨i, j, e1, e2, hc, q⟩ := q
  unfold mulOk at hc
  rcases Bool.or_eq_true_iff.mp hc with h | h
  · exact op_mul pins s σ H x y v u Q I rx ry ⟨i, j, e1, e2, (by have t := of_decide_eq_true h; exact t), q⟩
  · have := of_decide_eq_true h
    exact op_mulW pins s σ H x y v u Q I rx ry ⟨i, j, e1, e2, wide_mul this.1 this.2 (by decide) (by decide) (by decide), q⟩

/-- t * 1 is t -/
theorem tuple_mul1 (l : Addr) (items : Array Value) (n : Nat) (dd : Option Addr) (sl : Array (Option Value)) (u : Tok) :
    Meets (Builtin.«tuple.__mul__» ⟨[.ref l, .int 1 u], []⟩) (fun _ R s => s.heap.get? l = some { cls := .type "tuple", dict := dd, data := .seq items n, slots := sl } ∧ R (.ok (.ret (Value.ref l))) s) :=
  Meets.of_wp fun prog w A R s hq => by
    obtain ⟨hp, g, d, tk, os⟩ := s
    obtain ⟨ho, hq⟩ := hq
    have h1 := AutoSeq1.idx_int
    have c0 : ¬ ((decide ((1 : Int) < -(2 ^ 63)) || decide ((1 : Int) ≥ 2 ^ 63)) = true) := by decide
    have c1 : (items.isEmpty || (1 : Int) == 1) = true := by simp
    wp_walk using wpAny_loadPart' ho
    exact ⟨_, rfl, hq⟩
/-- shared, or an own list: a list that is looked at and is no locked one -/
def DW : Rl := fun X G _ H' x v => (x.box = true ∧ ∃ a, v = .ref a ∧ a ≠ G.a0 ∧ a ≠ G.c0 ∧ OwnD X.K H' a x) ∨ (x.box = false ∧ Den2 X G H' x v)
/-- the left one new -/
def rD1 (X : Cx) (F : Vl → Vl → Option Vl) (G : Gh) : R2 := fun x y H Q => ∃ d e r, DW X.km G H H d x ∧ DB X.km G H H e y ∧ F d e = some r ∧ ∀ v H', Same H H' → DN X.km G H H' r v → Q v H'
theorem DW.b {X : KM} {G : Gh} {H H' : Hp} {x : Vl} {v : V} (h : DW X G H H' x v) : DB X G H H' x v := by
  rcases h with ⟨_, h⟩ | ⟨_, h⟩
  · exact .inr h
  · exact .inl h
theorem or_mul {X : Cx} {G : Gh} : OpR X (binaryOp .Mult) (rD1 X mulV G) := by
  intro pins s σ H x y v u Q I rx ry h
  obtain ⟨d, e, r, hd, he, hf, q⟩ := h
  unfold mulV at hf
  split at hf
  · split at hf
    · rename_i hc
      cases hf
      have e1 := hd.b.int
      have e2 := he.int
      subst e1 e2
      exact or_mulI pins s σ H _ _ v u Q I rx ry ⟨_, _, rfl, rfl, hc, q _ H (Same.refl H) (Vl.i_dn _)⟩
    · cases hf
  · split at hf
    · rename_i l j hc
      cases hf
      obtain ⟨_, a, e1, _, _, xs, r1, d1⟩ | ⟨hb, _⟩ := hd
      rotate_left
      · exact absurd hb (by simp [Vl.box])
      have e2 := he.int
      subst e1 e2
      have n1 := d1.length
      refine op_rep pins s σ H _ _ v u Q I rx ry ⟨a, j, xs, rfl, rfl, r1, by omega, by omega, ?_, fun p hp => q _ _ (same_new hp) (DN.lst hp (d1.rep _))⟩
      rw [← sizeN]
      have : xs.length * j.toNat ≤ 1000 * 1000 := Nat.mul_le_mul (by omega) (by omega)
      omega
    · cases hf
  · split at hf
    · rename_i l j hc
      cases hf
      obtain ⟨a, xs, e1, r1, d1⟩ := hd.b.tup
      have e2 := he.int
      subst e1 e2
      have n1 := d1.length
      have ne : xs ≠ [] := fun z => hc.1 (List.eq_nil_of_length_eq_zero (by rw [n1, z]; rfl))
      by_cases hj : j = 1
      · subst hj
        have e3 : (List.replicate (1 : Int).toNat l).flatten = l := by simp
        rw [e3] at q
        cases rx
        obtain ⟨t, rfl⟩ := ry
        obtain ⟨its, rv, ⟨⟨cls, dd, data, sl⟩, ho, hcl, n, hdt⟩, hs⟩ := I.tuple r1.sq
        simp only at hcl hdt
        subst hcl hdt
        refine wpAny_binaryOp_repeat_ref (T := "tuple") (U := "int") (by decide) ⟨_, ho, rfl⟩ (fun s' => typeIs_int s' 1 t) noFill_tuple_mul F.fills_int_mul F.slot_int_rmul repeat_tuple F.slot_int_index.lookup ?_
        refine call_meets F.slot_int_rmul (typeIs_int s 1 t) F.entry_int_rmul (F.args_int_rmul_2 _ _) (int_rmul_tuple 1 t a its.toArray n dd sl) ⟨ho, rfl, ⟨_, ho, rfl⟩, ?_⟩
        exact call_meets F.slot_tuple_mul ⟨_, ho, rfl⟩ F.entry_tuple_mul (F.args_tuple_mul_2 _ _) (tuple_mul1 a its.toArray n dd sl t) ⟨ho, .ref a, H, I, rfl, q _ H (Same.refl H) (DN.tupOld r1 d1)⟩
      · exact op_repT pins s σ H _ _ v u Q I rx ry ⟨a, j, xs, rfl, rfl, r1.sq, ne, by omega, by omega, by omega, fun p hp => q _ _ (same_new hp) (DN.tup hp (d1.rep _))⟩
    · cases hf
  · cases hf
section
variable {X : Cx} {G : Gh} {W : WX} {a b : Expr} {f g : EF} {pos : Pos}
theorem DN.w {X : KM} {G : Gh} {H H' : Hp} {S : Src} {x : Vl} {v : V} (hs : SrcOk G H S) (h : DN X G H H' x v) : DW X G H H' x v := by
  have na : ∀ a : Addr, H a = none → a ≠ G.a0 ∧ a ≠ G.c0 := fun a e => ⟨fun z => (by rw [z, hs.2.1] at e; cases e), fun z => (by rw [z, hs.2.2] at e; cases e)⟩
  rcases h with ⟨b, a, e1, e2, e3⟩ | h
  · exact .inl ⟨b, a, e1, (na a e2).1, (na a e2).2, e3⟩
  · exact .inr h
theorem DW.ext {X : KM} {H H0 H' : Hp} {S : Src} {v : V} (hs : SrcOk G H S) (e : Ext G H H') {x : Vl} (h : DW X G H0 H x v) : DW X G H0 H' x v := by
  rcases h with ⟨b, a, e1, n1, n2, od⟩ | ⟨b, h⟩
  · obtain ⟨u, eu, _⟩ := od.some
    exact .inl ⟨b, a, e1, n1, n2, od.pers (Ext.pers hs e) (by rw [eu]; exact e a u eu n1 n2)⟩
  · exact .inr ⟨b, h.ext hs e⟩
/-- a * b, a new -/
theorem dMul (ha : DO X G W a f) (hb : DV X G W b g) : DO X G W (.BinOp a .Mult b pos) (fOp mulV f g) :=
  PE.weak (pe_op or_mul ha hb) fun σ H Q q => by
    obtain ⟨ρ, S, eo, h⟩ := q
    refine ⟨ρ, S, eo, ?_⟩
    unfold fOp at h
    cases ef : f ρ S with
    | stuck => simp only [ef, Out.bind_stuck] at h
    | exn c a S' => simp only [ef, Out.bind_exn] at h; exact h
    | ok x S1 =>
      simp only [ef, Out.bind_ok] at h
      intro v H1 e1 s1 r1
      refine ⟨ρ, S1, eo.ext e1 s1, ?_⟩
      cases eg : g ρ S1 with
      | stuck => simp only [eg, Out.bind_stuck] at h
      | exn c a S' =>
        simp only [eg, Out.bind_exn] at h
        exact fun cls d H' e2 s2 r2 => h cls d H' (e1.trans e2) s2 r2
      | ok y S2 =>
        simp only [eg, Out.bind_ok] at h
        intro u H2 e2 s2 r2
        unfold opF at h
        cases eo2 : ofO (mulV x y) S2 with
        | stuck => rw [eo2] at h; exact h.elim
        | exn c a S' => exact absurd eo2 ofO_exn
        | ok z S' =>
          rw [eo2] at h
          obtain ⟨ef2, rfl⟩ := ofO_ok eo2
          exact ⟨x, y, z, (r1.w eo.src).ext s1 e2, r2, ef2, fun v H' sm dn => h v H' ((e1.trans e2).trans (Ext.of_same sm)) (ext_src s2 sm) (dn_up (e1.trans e2) s2 dn)⟩
end

/-! ### comparisons -/
def dep (d e : PyData) : Bool := decide (min d.depth e.depth ≤ 100)
def eqD : Vl → Vl → Option Bool
  | .dat d, .dat e => if dep d e = true then some (PyData.eqv d e) else none
  | _, _ => none
def neD (x y : Vl) : Option Bool := (eqD x y).map not
def nonN : PyData → Bool
  | .none => false
  | _ => true
def ordD (h : PyData → PyData → Bool) : Vl → Vl → Option Bool
  | .dat d, .dat e => if (dep d e && PySem.W.alike d e && nonN d) = true then some (h d e) else none
  | _, _ => none
def ltD : Vl → Vl → Option Bool := ordD fun d e => PySem.W.dataLt d e
def gtD : Vl → Vl → Option Bool := ordD fun d e => PySem.W.dataLt e d
def leD : Vl → Vl → Option Bool := ordD fun d e => !PySem.W.dataLt e d
def geD : Vl → Vl → Option Bool := ordD fun d e => !PySem.W.dataLt d e
section
variable {X : Cx} {G : Gh}
theorem DB.reads {pins : List (Addr × Obj)} {σ : St} {H : Hp} {s : Shared} (I : Inv X pins σ H s) {d : PyData} {v : V} {u : Value} (h : DB X.km G H H (.dat d) v) (r : RelV v u) : ∃ as, Reads s.heap u d as := Dp.reads I d v u h.dp r
theorem or_eq (hu : X.A.units + 200 < cLine) : OpR X (compareOp .Eq) (rC X eqD G) := by
  intro pins s σ H x y v u Q I rx ry h
  obtain ⟨d, e, r, hd, he, hf, q⟩ := h
  unfold eqD at hf
  split at hf
  · split at hf
    · rename_i hz
      cases hf
      obtain ⟨as, r1⟩ := hd.reads I rx
      obtain ⟨bs, r2⟩ := he.reads I ry
      exact SeqAt.eq_plain r1 r2 hd.plain he.plain (by have := of_decide_eq_true hz; omega) ⟨.bl _, H, I, rfl, q⟩
    · cases hf
  · cases hf
theorem or_ne (hu : X.A.units + 200 < cLine) : OpR X (compareOp .NotEq) (rC X neD G) := by
  intro pins s σ H x y v u Q I rx ry h
  obtain ⟨d, e, r, hd, he, hf, q⟩ := h
  unfold neD eqD at hf
  split at hf
  · split at hf
    · rename_i hz
      cases hf
      obtain ⟨as, r1⟩ := hd.reads I rx
      obtain ⟨bs, r2⟩ := he.reads I ry
      exact SeqAt.ne_plain r1 r2 hd.plain he.plain (by have := of_decide_eq_true hz; omega) ⟨.bl _, H, I, rfl, q⟩
    · cases hf
  · cases hf
theorem ordD_some {h : PyData → PyData → Bool} {x y : Vl} {r : Bool} (hf : ordD h x y = some r) : ∃ d e, x = .dat d ∧ y = .dat e ∧ min d.depth e.depth ≤ 100 ∧ PySem.W.alike d e = true ∧ d ≠ .none ∧ r = h d e := by
  unfold ordD at hf
  split at hf
  · split at hf
    · rename_i d e hc
      cases hf
      rw [Bool.and_eq_true, Bool.and_eq_true] at hc
      refine ⟨d, e, rfl, rfl, of_decide_eq_true hc.1.1, hc.1.2, ?_, rfl⟩
      rintro rfl
      exact absurd hc.2 (by simp [nonN])
    · cases hf
  · cases hf
theorem or_lt (hu : X.A.units + 200 < cLine) : OpR X (compareOp .Lt) (rC X ltD G) := by
  intro pins s σ H x y v u Q I rx ry h
  obtain ⟨d, e, r, hd, he, hf, q⟩ := h
  obtain ⟨d, e, rfl, rfl, hz, ha, hn, rfl⟩ := ordD_some hf
  obtain ⟨as, r1⟩ := hd.reads I rx
  obtain ⟨bs, r2⟩ := he.reads I ry
  exact PySem.W.lt_data r1 r2 ha hn (by omega) ⟨.bl _, H, I, rfl, q⟩
theorem or_gt (hu : X.A.units + 200 < cLine) : OpR X (compareOp .Gt) (rC X gtD G) := by
  intro pins s σ H x y v u Q I rx ry h
  obtain ⟨d, e, r, hd, he, hf, q⟩ := h
  obtain ⟨d, e, rfl, rfl, hz, ha, hn, rfl⟩ := ordD_some hf
  obtain ⟨as, r1⟩ := hd.reads I rx
  obtain ⟨bs, r2⟩ := he.reads I ry
  exact PySem.W.gt_data r1 r2 ha hn (by omega) ⟨.bl _, H, I, rfl, q⟩
theorem or_le (hu : X.A.units + 200 < cLine) : OpR X (compareOp .LtE) (rC X leD G) := by
  intro pins s σ H x y v u Q I rx ry h
  obtain ⟨d, e, r, hd, he, hf, q⟩ := h
  obtain ⟨d, e, rfl, rfl, hz, ha, hn, rfl⟩ := ordD_some hf
  obtain ⟨as, r1⟩ := hd.reads I rx
  obtain ⟨bs, r2⟩ := he.reads I ry
  exact PySem.W.le_data r1 r2 ha hn (by omega) ⟨.bl _, H, I, rfl, q⟩
theorem or_ge (hu : X.A.units + 200 < cLine) : OpR X (compareOp .GtE) (rC X geD G) := by
  intro pins s σ H x y v u Q I rx ry h
  obtain ⟨d, e, r, hd, he, hf, q⟩ := h
  obtain ⟨d, e, rfl, rfl, hz, ha, hn, rfl⟩ := ordD_some hf
  obtain ⟨as, r1⟩ := hd.reads I rx
  obtain ⟨bs, r2⟩ := he.reads I ry
  exact PySem.W.ge_data r1 r2 ha hn (by omega) ⟨.bl _, H, I, rfl, q⟩
end
end L2.HL

namespace L2.HL
open PySem PySem.Spec PyProof.Rows

/-! ### keys of dicts -/
def flatK : PyData → Option Key
  | .int i => some (.inl i)
  | .str x => some (.inr x)
  | _ => none
def flatKs : List PyData → Option (List Key)
  | [] => some []
  | d :: ds => match flatK d, flatKs ds with
    | some k, some ks => some (k :: ks)
    | _, _ => none
theorem flatK_keyD (k : Key) : flatK (keyD k) = some k := by cases k <;> rfl
theorem flatK_of {d : PyData} {k : Key} (h : flatK d = some k) : d = keyD k := by
  cases d <;> simp [flatK] at h <;> subst h <;> rfl
theorem flatKs_of : ∀ {ds : List PyData} {ks : List Key}, flatKs ds = some ks → ds = ks.map keyD
  | [], ks, h => by
    simp [flatKs] at h
    subst h
    rfl
  | d :: ds, ks, h => by
    unfold flatKs at h
    split at h
    · rename_i k r e1 e2
      cases h
      rw [flatK_of e1, flatKs_of e2]
      rfl
    · cases h
theorem flatKs_map : ∀ ks : List Key, flatKs (ks.map keyD) = some ks
  | [] => rfl
  | k :: ks => by
    show flatKs (keyD k :: ks.map keyD) = _
    unfold flatKs
    rw [flatK_keyD, flatKs_map ks]
/-- may k be looked for among these -/
def tblOk (kvs : List (PyData × PyData)) (k : PyData) : Bool := match k, kvs with
  | .tuple (d :: ds), [] => (flatKs (d :: ds)).isSome
  | .tuple (d :: ds), (.tuple _, _) :: _ => (flatKs (d :: ds)).isSome
  | .int _, [] => true
  | .str _, [] => true
  | .int _, (.int _, _) :: _ => true
  | .int _, (.str _, _) :: _ => true
  | .str _, (.int _, _) :: _ => true
  | .str _, (.str _, _) :: _ => true
  | _, _ => false
def lookD (kvs : List (PyData × PyData)) (k : PyData) : Option PyData := (kvs.find? fun kv => PyData.eqv kv.1 k).map (·.2)
theorem eqv_keyD (a b : Key) : PyData.eqv (keyD a) (keyD b) = decide (a = b) := by
  cases a with
  | inl i => cases b with
    | inl j => simp [keyD, PyData.eqv, Bool.beq_eq_decide_eq]
    | inr y => simp [keyD, PyData.eqv]
  | inr x => cases b with
    | inl j => simp [keyD, PyData.eqv]
    | inr y => simp [keyD, PyData.eqv, Bool.beq_eq_decide_eq]
theorem eqvAll_keyD : ∀ a b : List Key, PyData.eqvAll (a.map keyD) (b.map keyD) = decide (a = b)
  | [], [] => by simp [PyData.eqvAll]
  | [], _ :: _ => by simp [PyData.eqvAll]
  | _ :: _, [] => by simp [PyData.eqvAll]
  | x :: xs, y :: ys => by
    show PyData.eqvAll (keyD x :: xs.map keyD) (keyD y :: ys.map keyD) = _
    rw [PyData.eqvAll, eqv_keyD, eqvAll_keyD xs ys]
    by_cases h : x = y <;> by_cases h2 : xs = ys <;> simp [h, h2]
section
variable {K : PySem.W.Frag} {H : Hp}
theorem DenK.look : ∀ {kvs : List (PyData × PyData)} {ks : List (Key × V)} (k : Key), DenK K H kvs ks → match lookD kvs (keyD k), valV ks k with
    | some d, some v => Den K H d v
    | none, none => True
    | _, _ => False
  | [], ks, k, h => by
    unfold DenK at h
    subst h
    simp [lookD, valV]
  | (k0, d0) :: r, ks, k, h => by
    unfold DenK at h
    obtain ⟨k', v, s, e1, e2, h1, h2⟩ := h
    subst e1 e2
    have ih := DenK.look k h2
    by_cases e : k' = k
    · subst e
      have a1 : lookD ((keyD k', d0) :: r) (keyD k') = some d0 := by simp [lookD, eqv_keyD]
      rw [a1, valV_pos rfl]
      exact h1
    · have a1 : lookD ((keyD k', d0) :: r) (keyD k) = lookD r (keyD k) := by simp [lookD, eqv_keyD, e]
      rw [a1, valV_neg e]
      exact ih
theorem DenT.look : ∀ {kvs : List (PyData × PyData)} {ks : List (List Key × V)} (k : List Key), DenT K H kvs ks → match lookD kvs (.tuple (k.map keyD)), valV ks k with
    | some d, some v => Den K H d v
    | none, none => True
    | _, _ => False
  | [], ks, k, h => by
    unfold DenT at h
    subst h
    simp [lookD, valV]
  | (k0, d0) :: r, ks, k, h => by
    unfold DenT at h
    obtain ⟨k', v, s, e1, e2, h1, h2⟩ := h
    subst e1 e2
    have ih := DenT.look k h2
    have ee : PyData.eqv (.tuple (k'.map keyD)) (.tuple (k.map keyD)) = decide (k' = k) := by rw [PyData.eqv, eqvAll_keyD]
    by_cases e : k' = k
    · subst e
      have a1 : lookD ((.tuple (k'.map keyD), d0) :: r) (.tuple (k'.map keyD)) = some d0 := by simp [lookD, ee]
      rw [a1, valV_pos rfl]
      exact h1
    · have a1 : lookD ((.tuple (k'.map keyD), d0) :: r) (.tuple (k.map keyD)) = lookD r (.tuple (k.map keyD)) := by simp [lookD, ee, e]
      rw [a1, valV_neg e]
      exact ih
theorem DenK.length : ∀ {kvs : List (PyData × PyData)} {ks : List (Key × V)}, DenK K H kvs ks → kvs.length = ks.length
  | [], ks, h => by unfold DenK at h; subst h; rfl
  | (k0, d0) :: r, ks, h => by
    unfold DenK at h
    obtain ⟨k', v, s, e1, e2, h1, h2⟩ := h
    subst e1
    rw [List.length_cons, List.length_cons, DenK.length h2]
theorem DenT.length : ∀ {kvs : List (PyData × PyData)} {ks : List (List Key × V)}, DenT K H kvs ks → kvs.length = ks.length
  | [], ks, h => by unfold DenT at h; subst h; rfl
  | (k0, d0) :: r, ks, h => by
    unfold DenT at h
    obtain ⟨k', v, s, e1, e2, h1, h2⟩ := h
    subst e1
    rw [List.length_cons, List.length_cons, DenT.length h2]
theorem DenL.keys : ∀ {ks : List Key} {xs : List V}, DenL K H (ks.map keyD) xs → xs = ks.map kV
  | [], xs, h => by
    have h : DenL K H [] xs := h
    unfold DenL at h
    exact h
  | k :: ks, xs, h => by
    have h : DenL K H (keyD k :: ks.map keyD) xs := h
    unfold DenL at h
    obtain ⟨v, r, e, h1, h2⟩ := h
    rw [e, DenL.keys h2]
    cases k with
    | inl i =>
      simp only [keyD] at h1
      unfold Den at h1
      rw [h1]
      rfl
    | inr i =>
      simp only [keyD] at h1
      unfold Den at h1
      rw [h1]
      rfl
end
/-- a dict that is read: own or locked -/
def DicR (K : PySem.W.Frag) (H : Hp) (a : Addr) (kvs : List (PyData × PyData)) : Prop := (∃ ks, Rd H a (.dK ks) ∧ DenK K H kvs ks) ∨ ∃ ks, Rd H a (.dT ks) ∧ DenT K H kvs ks
theorem DB.dic {X : KM} {G : Gh} {H H0 : Hp} {kvs : List (PyData × PyData)} {v : V} (h : DB X G H0 H (.dic kvs) v) : ∃ a, v = .ref a ∧ DicR X.K H a kvs := by
  rcases h with h | ⟨a, e, _, _, od⟩
  · obtain ⟨a, e, ⟨o, ks, h1, h2⟩ | ⟨o, ks, h1, h2⟩⟩ := h
    · exact ⟨a, e, .inl ⟨ks, .inr ⟨o, h1⟩, h2⟩⟩
    · exact ⟨a, e, .inr ⟨ks, .inr ⟨o, h1⟩, h2⟩⟩
  · rcases od with ⟨ks, h1, h2⟩ | ⟨ks, h1, h2⟩
    · exact ⟨a, e, .inl ⟨ks, .inl h1, h2⟩⟩
    · exact ⟨a, e, .inr ⟨ks, .inl h1, h2⟩⟩
/-- what the heap's dict at a holds at the value u -/
inductive LookAt (P : Program) (w : World) (h : Heap) (a : Addr) (u : Value) (r : Option Value) : Prop
  | flat (k : Key) (vs : List (Key × Value)) : (mixKind P w).is k u = true → h.DictOf (mixKind P w) a vs → r = valueAt vs k → LookAt P w h a u r
  | tup (k : List Key) (b : Addr) (xs : List (List Key × Addr × Value)) : u = .ref b → (tupleKind (mixKind P w)).is h k b → h.DictOfH (tupleKind (mixKind P w)) a xs → r = (atKey xs k).map (·.2) → LookAt P w h a u r
section
variable {X : Cx} {G : Gh} {pins : List (Addr × Obj)} {σ : St} {H : Hp} {s : Shared}
theorem DicR.dict {a : Addr} {kvs : List (PyData × PyData)} (I : Inv X pins σ H s) (h : DicR X.K H a kvs) : IsD H a := by
  rcases h with ⟨ks, h1, _⟩ | ⟨ks, h1, _⟩
  · exact .inl ⟨ks, h1⟩
  · exact .inr ⟨ks, h1⟩
theorem tup_key {d : PyData} {ds : List PyData} {ks : List Key} {y : V} {H0 : Hp} (h : DB X.km G H0 H (.dat (.tuple (d :: ds))) y) (hk : flatKs (d :: ds) = some ks) : ∃ b, y = .ref b ∧ H b = some (.tup (ks.map kV)) := by
  obtain ⟨b, xs, e, ht, hd⟩ := h.tup
  rw [flatKs_of hk] at hd
  have ex := DenL.keys hd
  subst ex
  refine ⟨b, e, ?_⟩
  rcases ht with ht | ⟨ht, _⟩
  · exact ht
  · exfalso
    have := congrArg List.length (flatKs_of hk)
    have e2 := congrArg List.length ht
    rw [List.length_map] at this e2
    rw [e2] at this
    simp at this
theorem flat_val {k : Key} {y : V} {H0 : Hp} (h : DB X.km G H0 H (.dat (keyD k)) y) : y = kV k := by
  cases k with
  | inl i => exact h.int
  | inr i => exact h.str
theorem mix_nil {P : Program} {w : World} {h : Heap} {a : Addr} {xs : List (List Key × Addr × Value)} (hx : xs = []) (d : h.DictOfH (tupleKind (mixKind P w)) a xs) : h.DictOf (mixKind P w) a [] := by
  subst hx
  obtain ⟨o, es, ep, h1, h2, h3, h4, _, _⟩ := d
  have e : es.toList = [] := by simpa using h4
  have e' : es = #[] := by
    have := congrArg List.toArray e
    simpa using this
  subst e'
  exact ⟨o, #[], ep, h1, h2, h3, fun e he => by simp at he, .nil, List.nodup_nil⟩
theorem tup_nil {P : Program} {w : World} {h : Heap} {a : Addr} {vs : List (Key × Value)} (hx : vs = []) (d : h.DictOf (mixKind P w) a vs) : h.DictOfH (tupleKind (mixKind P w)) a [] := by
  subst hx
  obtain ⟨o, es, ep, h1, h2, h3, _, h4, _⟩ := d
  have e : es.toList = [] := by
    have := Pairs.length h4
    simpa using this
  exact ⟨o, es, ep, h1, h2, h3, by rw [e]; rfl, fun x hx => by simp at hx, List.nodup_nil⟩
/-- a look-up of data, in the heap's words -/
theorem dic_look {a : Addr} {kvs : List (PyData × PyData)} {k : PyData} {y : V} {u : Value} {H0 : Hp} (I : Inv X pins σ H s) (hd : DicR X.K H a kvs) (hk : DB X.km G H0 H (.dat k) y) (ok : tblOk kvs k = true) (r : RelV y u) :
    (a == sysModules) = false ∧ ∃ o, LookAt X.prog X.w s.heap a u o ∧ match lookD kvs k, o with
      | some d, some w' => ∃ v, RelV v w' ∧ Den X.K H d v
      | none, none => True
      | _, _ => False := by
  have fl : ∀ q : Key, k = keyD q → (a == sysModules) = false ∧ ∃ o, LookAt X.prog X.w s.heap a u o ∧ match lookD kvs k, o with
      | some d, some w' => ∃ v, RelV v w' ∧ Den X.K H d v
      | none, none => True
      | _, _ => False := by
    rintro q rfl
    have ey := flat_val hk
    subst ey
    rcases hd with ⟨ks, h1, h2⟩ | ⟨ks, h1, h2⟩
    · obtain ⟨z, hs, vs, rel, dd⟩ := dk_rd I.hok h1
      refine ⟨hs, valueAt vs q, .flat q vs (kV_is r) dd rfl, ?_⟩
      have l := h2.look q
      have rv := rel.val q
      cases e1 : lookD kvs (keyD q) with
      | none =>
        cases e2 : valV ks q with
        | none =>
          rw [e2] at rv
          cases e3 : valueAt vs q with
          | none => trivial
          | some w' => rw [e3] at rv; exact rv.elim
        | some v => rw [e1, e2] at l; exact l.elim
      | some d =>
        cases e2 : valV ks q with
        | none => rw [e1, e2] at l; exact l.elim
        | some v =>
          rw [e1, e2] at l
          rw [e2] at rv
          cases e3 : valueAt vs q with
          | none => rw [e3] at rv; exact rv.elim
          | some w' => rw [e3] at rv; exact ⟨v, rv, l⟩
    · obtain ⟨z, hs, xs, rel, dd⟩ := dt_rd I.hok h1
      have e0 : kvs = [] := by
        cases kvs with
        | nil => rfl
        | cons p r' =>
          obtain ⟨k0, d0⟩ := p
          unfold DenT at h2
          obtain ⟨k', v, s', e1, e2, _⟩ := h2
          subst e2
          cases q <;> simp [tblOk, keyD] at ok
      subst e0
      have e1 : ks = [] := by unfold DenT at h2; exact h2
      subst e1
      cases rel
      refine ⟨hs, none, .flat q [] (kV_is r) (mix_nil rfl dd) rfl, trivial⟩
  cases k with
  | int i => exact fl (.inl i) rfl
  | str i => exact fl (.inr i) rfl
  | tuple ds =>
    cases ds with
    | nil => simp [tblOk] at ok
    | cons d ds =>
      have hks : ∃ ks, flatKs (d :: ds) = some ks := by
        cases kvs with
        | nil => exact Option.isSome_iff_exists.mp (by simpa [tblOk] using ok)
        | cons p r' =>
          obtain ⟨k0, d0⟩ := p
          cases k0 <;> simp [tblOk] at ok
          exact Option.isSome_iff_exists.mp ok
      obtain ⟨qs, hq⟩ := hks
      obtain ⟨b, ey, hb⟩ := tup_key hk hq
      subst ey
      cases (show u = Value.ref b from r)
      rw [flatKs_of hq]
      rcases hd with ⟨ks, h1, h2⟩ | ⟨ks, h1, h2⟩
      · obtain ⟨z, hs, vs, rel, dd⟩ := dk_rd I.hok h1
        have e0 : kvs = [] := by
          cases kvs with
          | nil => rfl
          | cons p r' =>
            obtain ⟨k0, d0⟩ := p
            unfold DenK at h2
            obtain ⟨k', v, s', e1, e2, _⟩ := h2
            subst e2
            cases k' <;> simp [tblOk, keyD] at ok
        subst e0
        have e1 : ks = [] := by unfold DenK at h2; exact h2
        subst e1
        cases rel
        exact ⟨hs, none, .tup qs b [] rfl (key_of I.hok hb) (tup_nil rfl dd) rfl, trivial⟩
      · obtain ⟨z, hs, xs, rel, dd⟩ := dt_rd I.hok h1
        refine ⟨hs, (atKey xs qs).map (·.2), .tup qs b xs rfl (key_of I.hok hb) dd rfl, ?_⟩
        have l := h2.look qs
        have rv := KT.val rel qs
        cases e1 : lookD kvs (.tuple (qs.map keyD)) with
        | none =>
          cases e2 : valV ks qs with
          | none =>
            rw [e2] at rv
            cases e3 : (atKey xs qs).map (·.2) with
            | none => trivial
            | some w' => rw [e3] at rv; exact rv.elim
          | some v => rw [e1, e2] at l; exact l.elim
        | some d' =>
          cases e2 : valV ks qs with
          | none => rw [e1, e2] at l; exact l.elim
          | some v =>
            rw [e1, e2] at l
            rw [e2] at rv
            cases e3 : (atKey xs qs).map (·.2) with
            | none => rw [e3] at rv; exact rv.elim
            | some w' => rw [e3] at rv; exact ⟨v, rv, l⟩
  | none => simp [tblOk] at ok
  | bool b => simp [tblOk] at ok
  | list b => simp [tblOk] at ok
  | dict b => simp [tblOk] at ok
end
end L2.HL

namespace L2.HL
open PySem PySem.Spec PyProof.Rows

/-! ### in, not in -/
def inV : Vl → Vl → Option Bool
  | .dat (.str x), .dat (.str z) => match x.cps.toList with
    | [c] => some (decide (c ∈ z.cps.toList))
    | _ => none
  | .dat d, .dat (.list xs) => if min (PyData.depthAll xs) d.depth ≤ 100 then some (xs.any fun y => PyData.eqv y d) else none
  | .dat d, .dat (.tuple xs) => if min (PyData.depthAll xs) d.depth ≤ 100 then some (xs.any fun y => PyData.eqv y d) else none
  | .dat k, .dic kvs => if tblOk kvs k = true then some (lookD kvs k).isSome else none
  | _, _ => none
def ninV (x y : Vl) : Option Bool := (inV x y).map not
section
variable {X : Cx} {G : Gh}
theorem look_isSome {H : Hp} {o : Option PyData} {r : Option Value} (h : match o, r with
      | some d, some w' => ∃ v, RelV v w' ∧ Den X.K H d v
      | none, none => True
      | _, _ => False) : o.isSome = r.isSome := by
  cases o <;> cases r <;> first | rfl | exact h.elim
theorem one_sign {x : Str} {c : Nat} (h : x.cps.toList = [c]) : x = ⟨#[c]⟩ := by
  cases x with
  | mk a =>
    have : a = #[c] := by
      have := congrArg List.toArray h
      simpa using this
    rw [this]
theorem or_in (hu : X.A.units + 200 < cLine) : OpR X (compareOp .In) (rC X inV G) := by
  intro pins s σ H x y v u Q I rx ry h
  obtain ⟨d, e, r, hd, he, hf, q⟩ := h
  unfold inV at hf
  split at hf
  · rename_i a b
    split at hf
    · rename_i c hc
      cases hf
      have ex := one_sign hc
      have e1 := hd.str
      have e2 := he.str
      subst e1 e2
      exact op_in_sign pins s σ H _ _ v u Q I rx ry ⟨c, b, by rw [ex], rfl, q⟩
    · cases hf
  · split at hf
    · rename_i hz
      cases hf
      obtain ⟨as, r1⟩ := hd.reads I rx
      obtain ⟨bs, r2⟩ := he.reads I ry
      exact SeqAt.in_list_data r2 r1 (by have := he.plain; rwa [PyData.plain] at this) hd.plain (by omega) ⟨.bl _, H, I, rfl, q⟩
    · cases hf
  · split at hf
    · rename_i hz
      cases hf
      obtain ⟨as, r1⟩ := hd.reads I rx
      obtain ⟨bs, r2⟩ := he.reads I ry
      exact SeqAt.in_tuple_data r2 r1 (by have := he.plain; rwa [PyData.plain] at this) hd.plain (by omega) ⟨.bl _, H, I, rfl, q⟩
    · cases hf
  · split at hf
    · rename_i ok
      cases hf
      obtain ⟨a, e1, dr⟩ := he.dic
      subst e1
      cases (show u = Value.ref a from ry)
      obtain ⟨nm, o, la, m⟩ := dic_look I dr hd ok rx
      have sm := look_isSome m
      rw [sm] at q
      cases la with
      | flat k vs h1 h2 h3 => exact wpAny_in_of h1 nm h2.mapOf ⟨.bl _, H, I.tok _, rfl, by rw [← h3]; exact q⟩
      | tup k b xs h1 h2 h3 h4 =>
        subst h1
        refine wpAny_in_heap (tupleKind_room_in1 (by omega)) h2 nm h3 ⟨.bl _, H, I.tok _, rfl, ?_⟩
        rw [h4, Option.isSome_map] at q
        exact q
    · cases hf
  · cases hf
theorem or_nin (hu : X.A.units + 200 < cLine) : OpR X (compareOp .NotIn) (rC X ninV G) := by
  intro pins s σ H x y v u Q I rx ry h
  obtain ⟨d, e, r, hd, he, hf, q⟩ := h
  unfold ninV at hf
  obtain ⟨r0, hn, er⟩ := Option.map_eq_some_iff.mp hf
  subst er
  unfold inV at hn
  clear hf
  have hf := hn
  clear hn
  split at hf
  · rename_i a b
    split at hf
    · rename_i c hc
      cases hf
      have ex := one_sign hc
      have e1 := hd.str
      have e2 := he.str
      subst e1 e2
      exact op_notIn_sign pins s σ H _ _ v u Q I rx ry ⟨c, b, by rw [ex], rfl, q⟩
    · cases hf
  · split at hf
    · rename_i hz
      cases hf
      obtain ⟨as, r1⟩ := hd.reads I rx
      obtain ⟨bs, r2⟩ := he.reads I ry
      exact SeqAt.notIn_list_data r2 r1 (by have := he.plain; rwa [PyData.plain] at this) hd.plain (by omega) ⟨.bl _, H, I, rfl, q⟩
    · cases hf
  · split at hf
    · rename_i hz
      cases hf
      obtain ⟨as, r1⟩ := hd.reads I rx
      obtain ⟨bs, r2⟩ := he.reads I ry
      exact SeqAt.notIn_tuple_data r2 r1 (by have := he.plain; rwa [PyData.plain] at this) hd.plain (by omega) ⟨.bl _, H, I, rfl, q⟩
    · cases hf
  · split at hf
    · rename_i ok
      cases hf
      obtain ⟨a, e1, dr⟩ := he.dic
      subst e1
      cases (show u = Value.ref a from ry)
      obtain ⟨nm, o, la, m⟩ := dic_look I dr hd ok rx
      have sm := look_isSome m
      rw [sm] at q
      cases la with
      | flat k vs h1 h2 h3 => exact wpAny_notIn_of h1 nm h2.mapOf ⟨.bl _, H, I.tok _, rfl, by rw [← h3]; exact q⟩
      | tup k b xs h1 h2 h3 h4 =>
        subst h1
        refine wpAny_notIn_heap (tupleKind_room_in1 (by omega)) h2 nm h3 ⟨.bl _, H, I.tok _, rfl, ?_⟩
        rw [h4, Option.isSome_map] at q
        exact q
    · cases hf
  · cases hf
end

/-! ### x[i] -/
def idxV : Vl → Vl → Option Vl
  | .dat (.list xs), .dat (.int i) => (atI xs i).map .dat
  | .dat (.tuple xs), .dat (.int i) => (atI xs i).map .dat
  | .dat (.str z), .dat (.int i) => if z.length ≤ 16777216 then (atI z.cps.toList i).map fun c => .dat (.str ⟨#[c]⟩) else none
  | .dic kvs, .dat k => if tblOk kvs k = true then (lookD kvs k).map .dat else none
  | _, _ => none
/-- two values, a shared one -/
def rE (X : Cx) (F : Vl → Vl → Option Vl) (G : Gh) : R2 := fun x y H Q => ∃ d e r, DB X.km G H H d x ∧ DB X.km G H H e y ∧ F d e = some r ∧ ∀ v, Den2 X.km G H r v → Q v H
theorem DenL.atI {K : PySem.W.Frag} {H : Hp} {ds : List PyData} {vs : List V} {i : Int} {d : PyData} (h : DenL K H ds vs) (e : atI ds i = some d) : ∃ v, L2.atI vs i = some v ∧ Den K H d v := by
  unfold L2.atI at e ⊢
  rw [← h.length]
  cases q : ixN ds.length i with
  | none => rw [q] at e; cases e
  | some j =>
    rw [q] at e
    exact h.get e
section
variable {X : Cx} {G : Gh} {W : WX} {a b : Expr} {f g : EF} {pos : Pos}
/-- the text of a dict's type -/
theorem dic_type {pins : List (Addr × Obj)} {σ : St} {H : Hp} {s : Shared} {a : Addr} {kvs : List (PyData × PyData)} (I : Inv X pins σ H s) (h : DicR X.K H a kvs) : s.TypeIs (.ref a) "dict" := (isD_at I (h.dict I)).1
theorem dic_get {pins : List (Addr × Obj)} {σ : St} {H : Hp} {s : Shared} {a : Addr} {kvs : List (PyData × PyData)} {k d : PyData} {y : V} {u : Value} {H0 : Hp} {A : Around} {E : Value → Shared → Prop} {Q : Value → Shared → Prop} (hu : A.units + 1 < cLine) (I : Inv X pins σ H s) (hd : DicR X.K H a kvs)
    (hk : DB X.km G H0 H (.dat k) y) (ok : tblOk kvs k = true) (r : RelV y u) (l : lookD kvs k = some d) (h : ∀ v w' s', Inv X pins σ H s' → RelV v w' → Den X.K H d v → Q w' s') : wpAny (model X.prog X.w) A (getItem (.ref a) u) Q E s := by
  obtain ⟨nm, o, la, m⟩ := dic_look I hd hk ok r
  rw [l] at m
  cases o with
  | none => exact m.elim
  | some w' =>
    obtain ⟨v, rv, dv⟩ := m
    cases la with
    | flat q vs h1 h2 h3 => exact wpAny_getItem_of h1 h2.mapOf h3.symm (h v w' _ (I.tok _) rv dv)
    | tup q b xs h1 h2 h3 h4 =>
      subst h1
      obtain ⟨p, hp, hp2⟩ := Option.map_eq_some_iff.mp h4.symm
      refine wpAny_getItem_heap (tupleKind_room_in1 hu) h2 h3 hp ?_
      rw [hp2]
      exact h v w' _ (I.tok _) rv dv
theorem ir_idx (hu : X.A.units + 200 < cLine) : IxR X (rE X idxV G) := by
  intro value slice pins s σ H x y v u Q I rx ry h hs
  obtain ⟨d, e, r, hd, he, hf, q⟩ := h
  unfold idxV at hf
  split at hf
  · obtain ⟨r0, hg, rfl⟩ := Option.map_eq_some_iff.mp hf
    obtain ⟨a, xs, e1, r1, d1⟩ := hd.list
    have e2 := he.int
    subst e1 e2
    obtain ⟨v0, hv, dv⟩ := d1.atI hg
    exact ix_list value slice pins s σ H _ _ v u Q I rx ry ⟨a, xs, _, v0, rfl, rfl, .inl r1, hv, q v0 dv⟩ hs
  · obtain ⟨r0, hg, rfl⟩ := Option.map_eq_some_iff.mp hf
    obtain ⟨a, xs, e1, r1, d1⟩ := hd.tup
    have e2 := he.int
    subst e1 e2
    obtain ⟨v0, hv, dv⟩ := d1.atI hg
    exact ix_tup value slice pins s σ H _ _ v u Q I rx ry ⟨a, xs, _, v0, rfl, rfl, r1.sq, hv, q v0 dv⟩ hs
  · rename_i z i
    split at hf
    · rename_i hz
      rw [sizeN] at hz
      obtain ⟨r0, hg, rfl⟩ := Option.map_eq_some_iff.mp hf
      have e1 := hd.str
      have e2 := he.int
      subst e1 e2
      exact ix_str value slice pins s σ H _ _ v u Q I rx ry ⟨z, i, r0, rfl, rfl, hz, hg, q _ (by show Den _ _ _ _; unfold Den; rfl)⟩ hs
    · cases hf
  · split at hf
    · rename_i ok
      obtain ⟨r0, hg, rfl⟩ := Option.map_eq_some_iff.mp hf
      obtain ⟨a, e1, dr⟩ := hd.dic
      subst e1
      cases (show v = Value.ref a from rx)
      exact tail_any (dic_type I dr) slot_dict_getitem.lookup (dic_get (by omega) I dr he ok ry hg fun v0 w' s' I' rv dv => ⟨v0, H, I', rv, q v0 dv⟩) hs
    · cases hf
  · cases hf
def fOpE (F : Vl → Vl → Option Vl) (f g : EF) : EF := fun ρ S => (f ρ S).bind fun x S1 => (g ρ S1).bind fun y S2 => ofO (F x y) S2
theorem dIx (hu : X.A.units + 200 < cLine) (ha : DV X G W a f) (hb : DV X G W b g) (hs : PlainIx b := by exact fun _ _ => rfl) : DE X G W (.Subscript a b pos) (fOpE idxV f g) :=
  PE.weak (pe_ix (ir_idx hu) ha hb hs) fun σ H Q q => two_TR (F2 := fun x y S => ofO (idxV x y) S) q fun x y v u H1 H2 S S1 S2 s0 e1 s1 e2 s2 rx rx2 ry h => by
    cases eo : ofO (idxV x y) S2 with
    | stuck => simp only [eo] at h
    | exn c a S' => exact absurd eo ofO_exn
    | ok z S' =>
      simp only [eo] at h
      obtain ⟨ef, rfl⟩ := ofO_ok eo
      exact ⟨x, y, z, rx2, ry, ef, fun v dv => h v H2 (e1.trans e2) s2 dv⟩
end
end L2.HL

namespace L2.HL
open PySem PySem.Spec PyProof.Rows

/-! ### argument lists -/
def fNil : AF := fun _ S => .ok [] S
def fCons (f : EF) (g : AF) : AF := fun ρ S => (f ρ S).bind fun x S1 => (g ρ S1).bind fun xs S2 => .ok (x :: xs) S2
section
variable {X : Cx} {G : Gh} {W : WX} {e : Expr} {es : List Expr} {f : EF} {g : AF} {pos : Pos}
theorem AllD.ext {X : KM} {H H' : Hp} {S : Src} (hs : SrcOk G H S) (ex : Ext G H H') : ∀ {xs : List Vl} {vs : List V}, AllD X G H xs vs → AllD X G H' xs vs
  | _, _, .nil => .nil
  | _, _, .cons h t => .cons (h.ext hs ex) (AllD.ext hs ex t)
theorem AllB.ext {X : KM} {H H' : Hp} {S : Src} (hs : SrcOk G H S) (ex : Ext G H H') : ∀ {xs : List Vl} {vs : List V}, AllB X G H xs vs → AllB X G H' xs vs
  | _, _, .nil => .nil
  | _, _, .cons h t => .cons (DB.ext hs ex h) (AllB.ext hs ex t)
theorem dasNil : DAs X G W [] fNil := PA.weak pa_nil fun σ H Q q => by
  obtain ⟨ρ, S, eo, q⟩ := q
  exact q [] H (Ext.refl G H) eo.src .nil
theorem davNil : DAv X G W [] fNil := PA.weak pa_nil fun σ H Q q => by
  obtain ⟨ρ, S, eo, q⟩ := q
  exact q [] H (Ext.refl G H) eo.src .nil
theorem cons_TA {X : KM} {R : Rl} {P : KM → Gh → Hp → List Vl → List V → Prop} {σ : St} {H : Hp} {Q : List V → Hp → Prop}
    (hc : ∀ (x : Vl) (v : V) (xs : List Vl) (vs : List V) (H1 H2 : Hp) (S1 : Src), SrcOk G H1 S1 → Ext G H1 H2 → R X G H H1 x v → P X G H2 xs vs → P X G H2 (x :: xs) (v :: vs))
    (h : TA1 P X G W (fCons f g) σ H Q) : tCons (TR R X G W f) (TA1 P X G W g) σ H Q := by
  obtain ⟨ρ, S, eo, h⟩ := h
  refine ⟨ρ, S, eo, ?_⟩
  unfold fCons at h
  cases ef : f ρ S with
  | stuck => simp only [ef, Out.bind_stuck] at h
  | exn c a S' => simp only [ef, Out.bind_exn] at h; exact h
  | ok x S1 =>
    simp only [ef, Out.bind_ok] at h
    intro v H1 e1 s1 r1
    refine ⟨ρ, S1, eo.ext e1 s1, ?_⟩
    cases eg : g ρ S1 with
    | stuck => simp only [eg, Out.bind_stuck] at h
    | exn c a S' =>
      simp only [eg, Out.bind_exn] at h
      exact fun cls d H' e2 s2 r2 => h cls d H' (e1.trans e2) s2 r2
    | ok y S2 =>
      simp only [eg, Out.bind_ok] at h
      intro u H2 e2 s2 r2
      exact h (v :: u) H2 (e1.trans e2) s2 (hc x v y u H1 H2 S1 s1 e2 r1 r2)
theorem dasCons (ha : DE X G W e f) (hr : DAs X G W es g) (hs : starEach (e :: es) X.env = (false, eval e X.env) :: starEach es X.env := by rfl) : DAs X G W (e :: es) (fCons f g) :=
  PA.weak (pa_cons ha hr hs) fun σ H Q q => cons_TA (P := AllD) (fun x v xs vs H1 H2 S1 s1 e2 r1 r2 => .cons (Den2.ext s1 e2 r1) r2) q
theorem davCons (ha : DV X G W e f) (hr : DAv X G W es g) (hs : starEach (e :: es) X.env = (false, eval e X.env) :: starEach es X.env := by rfl) : DAv X G W (e :: es) (fCons f g) :=
  PA.weak (pa_cons ha hr hs) fun σ H Q q => cons_TA (P := AllB) (fun x v xs vs H1 H2 S1 s1 e2 r1 r2 => .cons (DB.ext s1 e2 r1) r2) q
/-- the arguments' end -/
theorem TA1.use {X : KM} {P : KM → Gh → Hp → List Vl → List V → Prop} {R : Rl} {F : List Vl → Src → Out Vl} {σ : St} {H : Hp} {Q : VK} {k : List V → Hp → Prop} (h : TR R X G W (fun ρ S => (g ρ S).bind fun xs S1 => F xs S1) σ H Q)
    (hk : ∀ (xs : List Vl) (vs : List V) (H1 : Hp) (S S1 : Src) (ρ : En), EO X G H σ ρ S → EO X G H1 σ ρ S1 → Ext G H H1 → P X G H1 xs vs →
      (match F xs S1 with
        | .ok z S' => ∀ v H', Ext G H H' → SrcOk G H' S' → R X G H H' z v → Q v H'
        | .exn c a S' => ∀ cls d H', Ext G H H' → SrcOk G H' S' → ExnD X H' c a cls d → W cls d σ H'
        | .stuck => False) → k vs H1) : TA1 P X G W g σ H k := by
  obtain ⟨ρ, S, eo, h⟩ := h
  refine ⟨ρ, S, eo, ?_⟩
  cases eg : g ρ S with
  | stuck => simp only [eg, Out.bind_stuck] at h
  | exn c a S' => simp only [eg, Out.bind_exn] at h; exact h
  | ok y S2 =>
    simp only [eg, Out.bind_ok] at h
    intro u H2 e2 s2 r2
    exact hk y u H2 S S2 ρ eo (eo.ext e2 s2) e2 r2 h
end

/-! ### displays -/
def datsOf : List Vl → Option (List PyData)
  | [] => some []
  | .dat d :: xs => (datsOf xs).map (d :: ·)
  | _ :: _ => none
theorem datsOf_den {X : KM} {G : Gh} {H : Hp} : ∀ {xs : List Vl} {vs : List V} {ds : List PyData}, datsOf xs = some ds → AllD X G H xs vs → DenL X.K H ds vs
  | [], _, ds, h, .nil => by
    simp [datsOf] at h
    subst h
    exact DenL.nil
  | x :: xs, _, ds, h, .cons a t => by
    cases x with
    | dat d =>
      simp only [datsOf, Option.map_eq_some_iff] at h
      obtain ⟨r, hr, rfl⟩ := h
      exact DenL.cons a (datsOf_den hr t)
    | _ => simp [datsOf] at h
def lstF (xs : List Vl) : Option Vl := match datsOf xs with
  | some ds => if ds.length ≤ 16777216 then some (.dat (.list ds)) else none
  | none => none
def tupF (xs : List Vl) : Option Vl := match datsOf xs with
  | some ds => if ds.length ≤ 16777216 then some (.dat (.tuple ds)) else none
  | none => none
def fAll (F : List Vl → Option Vl) (g : AF) : EF := fun ρ S => (g ρ S).bind fun xs S1 => ofO (F xs) S1
section
variable {X : Cx} {G : Gh} {W : WX} {es : List Expr} {g : AF} {pos : Pos}
theorem dLst (h : DAs X G W es g) : DO X G W (.List es pos) (fAll lstF g) := PE.weak (pe_lst h) fun σ H Q q =>
  TA1.use (F := fun xs S => ofO (lstF xs) S) q fun xs vs H1 S S1 ρ eo eo1 e1 ad h => by
    cases e2 : ofO (lstF xs) S1 with
    | stuck => simp only [e2] at h
    | exn c a S' => exact absurd e2 ofO_exn
    | ok z S' =>
      simp only [e2] at h
      obtain ⟨ef, rfl⟩ := ofO_ok e2
      unfold lstF at ef
      split at ef
      · rename_i ds hds
        split at ef
        · rename_i hz
          cases ef
          have dl := datsOf_den hds ad
          refine ⟨by rw [← sizeN, ← dl.length]; exact hz, fun p hp => h _ _ (e1.trans (Ext.of_same (same_new hp))) (ext_src eo1.src (same_new hp)) (dn_up e1 eo1.src (DN.lst hp dl))⟩
        · cases ef
      · cases ef
theorem dTup {k : Nat} (h : DAs X G W es g) : DO X G W (.Tuple es k pos) (fAll tupF g) := PE.weak (pe_tup h) fun σ H Q q =>
  TA1.use (F := fun xs S => ofO (tupF xs) S) q fun xs vs H1 S S1 ρ eo eo1 e1 ad h => by
    cases e2 : ofO (tupF xs) S1 with
    | stuck => simp only [e2] at h
    | exn c a S' => exact absurd e2 ofO_exn
    | ok z S' =>
      simp only [e2] at h
      obtain ⟨ef, rfl⟩ := ofO_ok e2
      unfold tupF at ef
      split at ef
      · rename_i ds hds
        split at ef
        · rename_i hz
          cases ef
          have dl := datsOf_den hds ad
          refine ⟨by rw [← sizeN, ← dl.length]; exact hz, fun p hp => h _ _ (e1.trans (Ext.of_same (same_new hp))) (ext_src eo1.src (same_new hp)) (dn_up e1 eo1.src (DN.tup hp dl))⟩
        · cases ef
      · cases ef
end

/-! ### slices -/
def cutP {α : Type} (xs : List α) (lo hi : Option Int) : List α := (xs.drop (HT.sIx xs.length 0 lo)).take (HT.sIx xs.length xs.length hi - HT.sIx xs.length 0 lo)
def slV (x : Vl) (lo hi : Option Int) : Option Vl := match x with
  | .dat (.list xs) => some (.dat (.list (cutP xs lo hi)))
  | .dat (.tuple xs) => some (.dat (.tuple (cutP xs lo hi)))
  | .dat (.str z) => if z.length ≤ 16777216 then some (.dat (.str (cutS z lo hi))) else none
  | _ => none
abbrev PF := En → Src → Out (Option Int)
def fNo : PF := fun _ S => .ok none S
def asInt : Vl → Option Int
  | .dat (.int i) => some i
  | _ => none
def fPart (f : EF) : PF := fun ρ S => (f ρ S).bind fun x S1 => ofO ((asInt x).map some) S1
def TPo (X : KM) (G : Gh) (W : WX) (f : PF) : TO := fun σ H Q => ∃ ρ S, EO X G H σ ρ S ∧ match f ρ S with
  | .ok o S' => ∀ H', Ext G H H' → SrcOk G H' S' → Q o H'
  | .exn c a S' => ∀ cls d H', Ext G H H' → SrcOk G H' S' → ExnD X H' c a cls d → W cls d σ H'
  | .stuck => False
def DPo (X : Cx) (G : Gh) (W : WX) (e : Option Expr) (f : PF) : Prop := PO X e (TPo X.km G W f)
def fSl (f : EF) (l h : PF) : EF := fun ρ S => (f ρ S).bind fun x S1 => (l ρ S1).bind fun lo S2 => (h ρ S2).bind fun hi S3 => ofO (slV x lo hi) S3
section
variable {X : Cx} {G : Gh} {W : WX} {e : Expr} {lo hi : Option Expr} {f : EF} {l h : PF} {pos p2 : Pos}
theorem dNo : DPo X G W none fNo := ⟨fun pins s σ H Q I q => by
  obtain ⟨ρ, S, eo, q⟩ := q
  exact po_none.run pins s σ H Q I (q H (Ext.refl G H) eo.src)⟩
theorem dPart (he : DV X G W e f) : DPo X G W (some e) (fPart f) := ⟨fun pins s σ H Q I q => (po_some he).run pins s σ H Q I (by
  obtain ⟨ρ, S, eo, q⟩ := q
  refine ⟨ρ, S, eo, ?_⟩
  unfold fPart at q
  cases ef : f ρ S with
  | stuck => simp only [ef, Out.bind_stuck] at q
  | exn c a S' => simp only [ef, Out.bind_exn] at q; exact q
  | ok x S1 =>
    simp only [ef, Out.bind_ok] at q
    intro v H1 e1 s1 r1
    cases x with
    | dat d =>
      cases d with
      | int i => exact ⟨i, DB.int r1, q H1 e1 s1⟩
      | _ => exact q.elim
    | _ => exact q.elim)⟩
theorem DenL.cut {K : PySem.W.Frag} {H : Hp} {ds : List PyData} {vs : List V} (d : DenL K H ds vs) (lo hi : Option Int) : DenL K H (cutP ds lo hi) (cutV vs lo hi) := by
  unfold cutP cutV
  rw [← d.length]
  exact (d.drop _).take _
theorem cutP_whole {α : Type} {xs : List α} {lo hi : Option Int} (h : HT.sIx xs.length 0 lo = 0 ∧ HT.sIx xs.length xs.length hi = xs.length) : cutP xs lo hi = xs := by
  unfold cutP
  rw [h.1, h.2]
  simp
/-- a slice, by values -/
theorem sr_sl : SlR X (fun x lo hi H Q => ∃ d r, DB X.km G H H d x ∧ slV d lo hi = some r ∧ ∀ v H', Same H H' → DN X.km G H H' r v → Q v H') := by
  intro pins s σ H x v vl vu lo hi sl Q I rx hs pl pu h
  obtain ⟨d, r, hd, hf, q⟩ := h
  unfold slV at hf
  split at hf
  · cases hf
    obtain ⟨a, xs, e1, r1, d1⟩ := hd.list
    subst e1
    exact sl_list pins s σ H _ v vl vu lo hi sl Q I rx hs pl pu ⟨a, xs, rfl, .inl r1, fun p hp => q _ _ (same_new hp) (DN.lst hp (d1.cut lo hi))⟩
  · cases hf
    obtain ⟨a, xs, e1, r1, d1⟩ := hd.tup
    subst e1
    refine sl_tupA pins s σ H _ v vl vu lo hi sl Q I rx hs pl pu ⟨a, xs, rfl, r1.sq, fun w => ?_, fun _ p hp => q _ _ (same_new hp) (DN.tup hp (d1.cut lo hi))⟩
    rw [← d1.length] at w
    rw [cutP_whole w] at q
    exact q _ H (Same.refl H) (DN.tupOld r1 d1)
  · split at hf
    · rename_i hz
      cases hf
      have e1 := hd.str
      subst e1
      exact sl_str pins s σ H _ v vl vu lo hi sl Q I rx hs pl pu ⟨_, rfl, by rw [← sizeN]; exact hz, q _ H (Same.refl H) (Vl.s_dn _)⟩
    · cases hf
  · cases hf
theorem dSl (he : DV X G W e f) (hl : DPo X G W lo l) (hh : DPo X G W hi h) : DO X G W (.Subscript e (.Slice lo hi none p2) pos) (fSl f l h) :=
  PE.weak (pe_slice sr_sl he hl hh) fun σ H Q q => by
    obtain ⟨ρ, S, eo, q⟩ := q
    refine ⟨ρ, S, eo, ?_⟩
    unfold fSl at q
    cases ef : f ρ S with
    | stuck => simp only [ef, Out.bind_stuck] at q
    | exn c a S' => simp only [ef, Out.bind_exn] at q; exact q
    | ok x S1 =>
      simp only [ef, Out.bind_ok] at q
      intro v H1 e1 s1 r1
      refine ⟨ρ, S1, eo.ext e1 s1, ?_⟩
      cases el : l ρ S1 with
      | stuck => simp only [el, Out.bind_stuck] at q
      | exn c a S' =>
        simp only [el, Out.bind_exn] at q
        exact fun cls d H' e2 s2 r2 => q cls d H' (e1.trans e2) s2 r2
      | ok o1 S2 =>
        simp only [el, Out.bind_ok] at q
        intro H2 e2 s2
        refine ⟨ρ, S2, (eo.ext e1 s1).ext e2 s2, ?_⟩
        cases eh : h ρ S2 with
        | stuck => simp only [eh, Out.bind_stuck] at q
        | exn c a S' =>
          simp only [eh, Out.bind_exn] at q
          exact fun cls d H' e3 s3 r3 => q cls d H' ((e1.trans e2).trans e3) s3 r3
        | ok o2 S3 =>
          simp only [eh, Out.bind_ok] at q
          intro H3 e3 s3
          cases eo2 : ofO (slV x o1 o2) S3 with
          | stuck => simp only [eo2] at q
          | exn c a S' => exact absurd eo2 ofO_exn
          | ok z S' =>
            simp only [eo2] at q
            obtain ⟨ez, rfl⟩ := ofO_ok eo2
            have e13 := (e1.trans e2).trans e3
            exact ⟨x, z, ((DB.ext s1 e2 r1).ext s2 e3), ez, fun v H' sm dn => q v H' (e13.trans (Ext.of_same sm)) (ext_src s3 sm) (dn_up e13 s3 dn)⟩
end

/-! ### calls of built-ins by name -/
def rL (X : Cx) (F : List Vl → Option Vl) (G : Gh) : List V → Hp → VK → Prop := fun vs H Q => ∃ xs r, AllB X.km G H xs vs ∧ F xs = some r ∧ ∀ v H', Same H H' → DN X.km G H H' r v → Q v H'
section
variable {X : Cx} {G : Gh} {W : WX} {x : Str} {e : Expr} {es : List Expr} {g : AF} {F : List Vl → Option Vl} {id T : String} {p pos : Pos}
theorem callF {σ : St} {H : Hp} {Q : VK} (q : TR DN X.km G W (fAll F g) σ H Q) : tCB (rL X F G) (TA1 AllB X.km G W g) σ H Q :=
  TA1.use (F := fun xs S => ofO (F xs) S) q fun xs vs H1 S S1 ρ eo eo1 e1 ad h => by
    cases e2 : ofO (F xs) S1 with
    | stuck => simp only [e2] at h
    | exn c a S' => exact absurd e2 ofO_exn
    | ok z S' =>
      simp only [e2] at h
      obtain ⟨ef, rfl⟩ := ofO_ok e2
      exact ⟨xs, z, ad, ef, fun v H' sm dn => h v H' (e1.trans (Ext.of_same sm)) (ext_src eo1.src sm) (dn_up e1 eo1.src dn)⟩
theorem dCallB (hc : CallR X (.builtin id) (rL X F G)) (hm : X.mg x = none) (hv : bootBuiltins x = some (.builtin id)) (ha : DAv X G W (e :: es) g) (hg : Gl X x := by rfl) (hn : x ≠ "__name__" := by decide) (hdb : (x == ("__debug__" : Str)) = false := by decide)
    (he : starEach (e :: es) X.env = (false, eval e X.env) :: starEach es X.env := by rfl) (hpl : (backTo pos (starEach es X.env)).any (·.1) = false := by rfl) : DO X G W (.Call (.Name x p) (e :: es) [] pos) (fAll F g) :=
  PE.weak (pe_callB hc hg hm hv ha hn hdb he hpl) fun σ H Q q => callF q
theorem dCallT (hc : CallR X (.type T) (rL X F G)) (hm : X.mg x = none) (hv : bootBuiltins x = some (.type T)) (ha : DAv X G W (e :: es) g) (hg : Gl X x := by rfl) (hn : x ≠ "__name__" := by decide) (hdb : (x == ("__debug__" : Str)) = false := by decide)
    (he : starEach (e :: es) X.env = (false, eval e X.env) :: starEach es X.env := by rfl) (hpl : (backTo pos (starEach es X.env)).any (·.1) = false := by rfl) : DO X G W (.Call (.Name x p) (e :: es) [] pos) (fAll F g) :=
  PE.weak (pe_callTy hc hg hm hv ha hn hdb he hpl) fun σ H Q q => callF q
end
/-! ### len, list, tuple, sorted, all, any, min, max, abs, int -/
def lenF : List Vl → Option Vl
  | [.dat (.list xs)] => some (.dat (.int xs.length))
  | [.dat (.tuple xs)] => some (.dat (.int xs.length))
  | [.dat (.str z)] => if z.length ≤ 16777216 then some (.dat (.int z.length)) else none
  | _ => none
def listF : List Vl → Option Vl
  | [.dat (.list xs)] => some (.dat (.list xs))
  | [.dat (.tuple xs)] => some (.dat (.list xs))
  | _ => none
def tupleF : List Vl → Option Vl
  | [.dat (.list xs)] => some (.dat (.tuple xs))
  | [.dat (.tuple xs)] => some (.dat (.tuple xs))
  | _ => none
def bools : List PyData → Option (List Bool)
  | [] => some []
  | .bool b :: r => (bools r).map (b :: ·)
  | _ :: _ => none
def allF : List Vl → Option Vl
  | [.dat (.list xs)] => (bools xs).map fun bs => .dat (.bool (bs.all id))
  | _ => none
def anyF : List Vl → Option Vl
  | [.dat (.list xs)] => (bools xs).map fun bs => .dat (.bool (bs.any id))
  | _ => none
def alikeB (ds : List PyData) : Bool := ds.all fun d => ds.all fun e => PySem.W.alike d e
def isTupC : PyData → Bool
  | .tuple (_ :: _) => true
  | _ => false
def isFlatS : PyData → Bool
  | .none => false
  | .tuple _ => false
  | _ => true
def sortOk (ds : List PyData) : Bool := alikeB ds && (ds.all isTupC || ds.all isFlatS) && decide (PyData.depthAll ds ≤ 100)
def sortP (ds : List PyData) : List PyData := ds.mergeSort (PySem.W.dataLe false id)
def sortedF : List Vl → Option Vl
  | [.dat (.list xs)] => if sortOk xs = true then some (.dat (.list (sortP xs))) else none
  | _ => none
section
variable {X : Cx} {G : Gh}
theorem AllB.one {X : KM} {H : Hp} {x : Vl} {vs : List V} (h : AllB X G H [x] vs) : ∃ v, vs = [v] ∧ DB X G H H x v := by
  cases h with
  | cons a t => cases t; exact ⟨_, rfl, a⟩
theorem AllB.two {X : KM} {H : Hp} {x y : Vl} {vs : List V} (h : AllB X G H [x, y] vs) : ∃ v u, vs = [v, u] ∧ DB X G H H x v ∧ DB X G H H y u := by
  cases h with
  | cons a t =>
    cases t with
    | cons b t => cases t; exact ⟨_, _, rfl, a, b⟩
theorem cl_len : CallR X (.builtin "len") (rL X lenF G) := by
  intro pins s σ H vs us Q I r h
  obtain ⟨xs, z, ab, hf, q⟩ := h
  unfold lenF at hf
  split at hf
  · cases hf
    obtain ⟨v, rfl, hd⟩ := ab.one
    obtain ⟨a, ys, e1, r1, d1⟩ := hd.list
    subst e1
    rw [d1.length] at q
    exact call_len_seq pins s σ H _ us Q I r ⟨a, ys, rfl, .inl (.inl r1), q _ H (Same.refl H) (Vl.i_dn _)⟩
  · cases hf
    obtain ⟨v, rfl, hd⟩ := ab.one
    obtain ⟨a, ys, e1, r1, d1⟩ := hd.tup
    subst e1
    rw [d1.length] at q
    exact call_len_seq pins s σ H _ us Q I r ⟨a, ys, rfl, .inr r1.sq, q _ H (Same.refl H) (Vl.i_dn _)⟩
  · split at hf
    · rename_i hz
      cases hf
      obtain ⟨v, rfl, hd⟩ := ab.one
      have e1 := hd.str
      subst e1
      exact call_len_str pins s σ H _ us Q I r ⟨_, rfl, by rw [← sizeN]; exact hz, q _ H (Same.refl H) (Vl.i_dn _)⟩
    · cases hf
  · cases hf
theorem cl_list : CallR X (.type "list") (rL X listF G) := by
  intro pins s σ H vs us Q I r h
  obtain ⟨xs, z, ab, hf, q⟩ := h
  unfold listF at hf
  split at hf
  · cases hf
    obtain ⟨v, rfl, hd⟩ := ab.one
    obtain ⟨a, ys, e1, r1, d1⟩ := hd.list
    subst e1
    exact call_list_of pins s σ H _ us Q I r ⟨a, ys, rfl, .inl (.inl r1), fun l hl => q _ _ (same_new hl) (DN.lst hl d1)⟩
  · cases hf
    obtain ⟨v, rfl, hd⟩ := ab.one
    obtain ⟨a, ys, e1, r1, d1⟩ := hd.tup
    subst e1
    exact call_list_of pins s σ H _ us Q I r ⟨a, ys, rfl, .inr r1.sq, fun l hl => q _ _ (same_new hl) (DN.lst hl d1)⟩
  · cases hf
theorem cl_tuple : CallR X (.type "tuple") (rL X tupleF G) := by
  intro pins s σ H vs us Q I r h
  obtain ⟨xs, z, ab, hf, q⟩ := h
  unfold tupleF at hf
  split at hf
  · cases hf
    obtain ⟨v, rfl, hd⟩ := ab.one
    obtain ⟨a, ys, e1, r1, d1⟩ := hd.list
    subst e1
    exact call_tuple_of pins s σ H _ us Q I r ⟨a, ys, rfl, .inl ⟨.inl r1, fun l hl => q _ _ (same_new hl) (DN.tup hl d1)⟩⟩
  · cases hf
    obtain ⟨v, rfl, hd⟩ := ab.one
    obtain ⟨a, ys, e1, r1, d1⟩ := hd.tup
    subst e1
    exact call_tuple_of pins s σ H _ us Q I r ⟨a, ys, rfl, .inr ⟨r1.sq, q _ H (Same.refl H) (DN.tupOld r1 d1)⟩⟩
  · cases hf
theorem bools_den {K : PySem.W.Frag} {H : Hp} : ∀ {ds : List PyData} {vs : List V} {bs : List Bool}, bools ds = some bs → DenL K H ds vs → vs = bs.map V.bl
  | [], vs, bs, h, d => by
    simp [bools] at h
    subst h
    unfold DenL at d
    exact d
  | d0 :: r, vs, bs, h, d => by
    cases d0 with
    | bool b =>
      simp only [bools, Option.map_eq_some_iff] at h
      obtain ⟨t, ht, rfl⟩ := h
      unfold DenL at d
      obtain ⟨v, s, e, h1, h2⟩ := d
      unfold Den at h1
      rw [e, h1, bools_den ht h2]
      rfl
    | _ => simp [bools] at h
theorem cl_all (hc : X.calm = true) : CallR X (.builtin "all") (rL X allF G) := by
  intro pins s σ H vs us Q I r h
  obtain ⟨xs, z, ab, hf, q⟩ := h
  unfold allF at hf
  split at hf
  · obtain ⟨bs, hb, rfl⟩ := Option.map_eq_some_iff.mp hf
    obtain ⟨v, rfl, hd⟩ := ab.one
    obtain ⟨a, ys, e1, r1, d1⟩ := hd.list
    subst e1
    have e2 := bools_den hb d1
    subst e2
    exact cr_all hc pins s σ H _ us Q I r ⟨a, bs, rfl, .inl r1, q _ H (Same.refl H) (Vl.b_dn _)⟩
  · cases hf
theorem cl_any (hc : X.calm = true) : CallR X (.builtin "any") (rL X anyF G) := by
  intro pins s σ H vs us Q I r h
  obtain ⟨xs, z, ab, hf, q⟩ := h
  unfold anyF at hf
  split at hf
  · obtain ⟨bs, hb, rfl⟩ := Option.map_eq_some_iff.mp hf
    obtain ⟨v, rfl, hd⟩ := ab.one
    obtain ⟨a, ys, e1, r1, d1⟩ := hd.list
    subst e1
    have e2 := bools_den hb d1
    subst e2
    exact cr_any hc pins s σ H _ us Q I r ⟨a, bs, rfl, .inl r1, q _ H (Same.refl H) (Vl.b_dn _)⟩
  · cases hf
theorem each_of {K : PySem.W.Frag} {H : Hp} : ∀ {ds : List PyData} {vs : List V} {us : List Value}, DenL K H ds vs → Vals vs us → PySem.W.EachIs (fun u d => ∃ v, RelV v u ∧ Den K H d v) us ds
  | [], vs, us, h, r => by
    unfold DenL at h
    subst h
    cases r
    exact .nil
  | d :: ds, vs, us, h, r => by
    unfold DenL at h
    obtain ⟨v, s, e, h1, h2⟩ := h
    subst e
    cases r with
    | cons rv rt => exact .cons ⟨v, rv, h1⟩ (each_of h2 rt)
theorem of_each {K : PySem.W.Frag} {H : Hp} : ∀ {ds : List PyData} {us : List Value}, PySem.W.EachIs (fun u d => ∃ v, RelV v u ∧ Den K H d v) us ds → ∃ vs, DenL K H ds vs ∧ Vals vs us
  | _, _, .nil => ⟨[], DenL.nil, .nil⟩
  | _, _, .cons ⟨v, rv, dv⟩ t => by
    obtain ⟨vs, h1, h2⟩ := of_each t
    exact ⟨v :: vs, DenL.cons dv h1, .cons rv h2⟩
theorem depth_le : ∀ {ds : List PyData} {d : PyData}, d ∈ ds → d.depth ≤ PyData.depthAll ds
  | e :: ds, d, h => by
    rw [PyData.depthAll]
    rcases List.mem_cons.mp h with h | h
    · subst h
      exact Nat.le_max_left _ _
    · exact Nat.le_trans (depth_le h) (Nat.le_max_right _ _)
theorem sort_conds {ds : List PyData} (h : sortOk ds = true) : PySem.W.AllAlike (ds.map id) ∧ PySem.W.Sortable (ds.map id) ∧ ∀ d ∈ ds, d.depth ≤ 100 := by
  unfold sortOk at h
  rw [Bool.and_eq_true, Bool.and_eq_true] at h
  obtain ⟨⟨h1, h2⟩, h3⟩ := h
  rw [List.map_id]
  refine ⟨fun d hd e he => ?_, ?_, fun d hd => Nat.le_trans (depth_le hd) (of_decide_eq_true h3)⟩
  · unfold alikeB at h1
    exact List.all_eq_true.mp (List.all_eq_true.mp h1 d hd) e he
  · rcases Bool.or_eq_true_iff.mp h2 with h | h
    · refine .inl fun d hd => ?_
      have := List.all_eq_true.mp h d hd
      cases d with
      | tuple xs =>
        cases xs with
        | nil => simp [isTupC] at this
        | cons a b => exact ⟨a, b, rfl⟩
      | _ => simp [isTupC] at this
    · refine .inr fun d hd => ?_
      have := List.all_eq_true.mp h d hd
      cases d <;> simp [isFlatS] at this <;> simp
theorem cl_sorted (hu : X.A.units + 200 < cLine) : CallR X (.builtin "sorted") (rL X sortedF G) := by
  intro pins s σ H vs us Q I r h
  obtain ⟨xs, z, ab, hf, q⟩ := h
  unfold sortedF at hf
  split at hf
  · rename_i ds
    split at hf
    · rename_i ok
      cases hf
      obtain ⟨v, rfl, hd⟩ := ab.one
      obtain ⟨a, ys, e1, r1, d1⟩ := hd.list
      subst e1
      obtain ⟨c1, c2, c3⟩ := sort_conds ok
      obtain ⟨zl, its, n, rv, ho⟩ := rd_list I r1
      rw [Vals.ref1 r]
      have er : PySem.W.EachIs (fun v b => ∃ as, Reads s.heap v (id b) as) its ds := (each_of d1 rv).mono fun u d ⟨w', rw', dw⟩ => Dp.reads I d w' u (Den.dp d w' dw) rw'
      refine PySem.W.sorted_data (A := X.A) (vs := its) (bs := ds) (enc := id) (R := fun u d => ∃ v, RelV v u ∧ Den X.K H d v) ⟨_, ho, rfl, _, rfl⟩ (each_of d1 rv) er c1 c2 (by rw [← sizeN, d1.length]; exact zl) (fun d hd => by have := c3 d hd; show X.A.units + 2 + d.depth < cLine; omega) fun out ol oe => ?_
      obtain ⟨ws, dw, rw'⟩ := of_each oe
      obtain ⟨ep, he'⟩ := PyProof.Rows.sortedAll_at s.heap its out.toArray
      have hp : H (s.heap.objs.size + 1) = none := I.hok.fresh (Nat.le_succ _)
      have wl : ws.length ≤ sizeLine := by rw [rw'.length, ol, ← sizeN, d1.length]; exact zl
      exact ⟨.ref _, upd H (s.heap.objs.size + 1) (.lst ws), I.laid (t' := s.toks) (fun _ _ => PyProof.Rows.sortedAll_old) (Nat.le_succ _) ⟨wl, out, ep, rw', he'⟩, rfl, q _ _ (same_new hp) (DN.lst hp dw)⟩
    · cases hf
  · cases hf
end
end L2.HL

namespace L2.HL
open PySem PySem.Spec PyProof.Rows

/-! ### one shape for all readings -/
def FinG {α β : Type} (P : Hp → Hp → α → β → Prop) (X : KM) (G : Gh) (W : WX) (σ : St) (H : Hp) (o : Out α) (Q : β → Hp → Prop) : Prop := match o with
  | .ok x S' => ∀ v H', Ext G H H' → SrcOk G H' S' → P H H' x v → Q v H'
  | .exn c a S' => ∀ cls d H', Ext G H H' → SrcOk G H' S' → ExnD X H' c a cls d → W cls d σ H'
  | .stuck => False
def TG1 {α β : Type} (P : Hp → Hp → α → β → Prop) (X : KM) (G : Gh) (W : WX) (f : En → Src → Out α) : St → Hp → (β → Hp → Prop) → Prop := fun σ H Q => ∃ ρ S, EO X G H σ ρ S ∧ FinG P X G W σ H (f ρ S) Q
section
variable {X : KM} {G : Gh} {W : WX} {σ : St} {H : Hp}
theorem TR.of {R : Rl} {f : EF} {Q : VK} (h : TG1 (R X G) X G W f σ H Q) : TR R X G W f σ H Q := by
  obtain ⟨ρ, S, eo, h⟩ := h
  refine ⟨ρ, S, eo, ?_⟩
  unfold FinG at h
  cases e : f ρ S <;> rw [e] at h <;> exact h
theorem TR.g {R : Rl} {f : EF} {Q : VK} (h : TR R X G W f σ H Q) : TG1 (R X G) X G W f σ H Q := by
  obtain ⟨ρ, S, eo, h⟩ := h
  refine ⟨ρ, S, eo, ?_⟩
  unfold FinG
  cases e : f ρ S <;> rw [e] at h <;> exact h
abbrev BE : Hp → Hp → Bool → Bool → Prop := fun _ _ x v => v = x
theorem TT1.of {f : BF} {Q : Bool → Hp → Prop} (h : TG1 BE X G W f σ H Q) : TT1 X G W f σ H Q := by
  obtain ⟨ρ, S, eo, h⟩ := h
  refine ⟨ρ, S, eo, ?_⟩
  unfold FinG at h
  cases e : f ρ S <;> rw [e] at h
  · exact fun H' a b => h _ H' a b rfl
  · exact h
  · exact h
theorem TT1.g {f : BF} {Q : Bool → Hp → Prop} (h : TT1 X G W f σ H Q) : TG1 BE X G W f σ H Q := by
  obtain ⟨ρ, S, eo, h⟩ := h
  refine ⟨ρ, S, eo, ?_⟩
  unfold FinG
  cases e : f ρ S <;> rw [e] at h
  · exact fun v H' a b (c : v = _) => by subst c; exact h H' a b
  · exact h
  · exact h
theorem TA1.of {P : KM → Gh → Hp → List Vl → List V → Prop} {f : AF} {Q : List V → Hp → Prop} (h : TG1 (fun _ => P X G) X G W f σ H Q) : TA1 P X G W f σ H Q := by
  obtain ⟨ρ, S, eo, h⟩ := h
  refine ⟨ρ, S, eo, ?_⟩
  unfold FinG at h
  cases e : f ρ S <;> rw [e] at h <;> exact h
theorem TA1.g {P : KM → Gh → Hp → List Vl → List V → Prop} {f : AF} {Q : List V → Hp → Prop} (h : TA1 P X G W f σ H Q) : TG1 (fun _ => P X G) X G W f σ H Q := by
  obtain ⟨ρ, S, eo, h⟩ := h
  refine ⟨ρ, S, eo, ?_⟩
  unfold FinG
  cases e : f ρ S <;> rw [e] at h <;> exact h
/-- may be looked at from an earlier heap -/
def Ups {α β : Type} (G : Gh) (P : Hp → Hp → α → β → Prop) : Prop := ∀ H H1 H' x v S1, Ext G H H1 → SrcOk G H1 S1 → P H1 H' x v → P H H' x v
theorem ups_dn : Ups G (DN X G) := fun H H1 H' x v S1 e s h => dn_up e s h
theorem ups_df : Ups G (DF X G) := fun H H1 H' x v S1 e s h => h
theorem ups_db : Ups G (DB X G) := fun H H1 H' x v S1 e s h => h
theorem ups_be : Ups G BE := fun H H1 H' x v S1 e s h => h
theorem ups_c {α β : Type} {P : Hp → α → β → Prop} : Ups G (fun _ => P) := fun H H1 H' x v S1 e s h => h
theorem FinG.up {α β : Type} {P : Hp → Hp → α → β → Prop} (u : Ups G P) {H1 : Hp} {S1 : Src} (e : Ext G H H1) (s : SrcOk G H1 S1) {o : Out α} {Q : β → Hp → Prop} (h : FinG P X G W σ H o Q) : FinG P X G W σ H1 o Q := by
  unfold FinG at h ⊢
  cases o with
  | ok x S' => exact fun v H' a b c => h v H' (e.trans a) b (u _ _ _ _ _ _ e s c)
  | exn c a S' => exact fun cls d H' a b c => h cls d H' (e.trans a) b c
  | stuck => exact h
/-- one after the other -/
theorem TG1.bind {α β γ δ : Type} {P : Hp → Hp → α → β → Prop} {P' : Hp → Hp → γ → δ → Prop} (u : Ups G P) {f : En → Src → Out γ} {k : En → γ → Src → Out α} {Q : β → Hp → Prop}
    (h : TG1 P X G W (fun ρ S => (f ρ S).bind (k ρ)) σ H Q) {Q' : δ → Hp → Prop}
    (hk : ∀ ρ x v S S1 H1, EO X G H σ ρ S → EO X G H1 σ ρ S1 → Ext G H H1 → P' H H1 x v → FinG P X G W σ H1 (k ρ x S1) Q → Q' v H1) : TG1 P' X G W f σ H Q' := by
  obtain ⟨ρ, S, eo, h⟩ := h
  refine ⟨ρ, S, eo, ?_⟩
  unfold FinG
  cases e : f ρ S with
  | stuck => simp only [e, Out.bind_stuck] at h; exact h
  | exn c a S' => simp only [e, Out.bind_exn] at h; exact h
  | ok x S1 =>
    simp only [e, Out.bind_ok] at h
    exact fun v H1 a b c => hk ρ x v S S1 H1 eo (eo.ext a b) a c (h.up u a b)
/-- the value is there -/
theorem FinG.ret {α β : Type} {P : Hp → Hp → α → β → Prop} {x : α} {S : Src} {Q : β → Hp → Prop} (h : FinG P X G W σ H (.ok x S) Q) (s : SrcOk G H S) {v : β} (p : P H H x v) : Q v H := h v H (Ext.refl G H) s p
theorem FinG.put {α β : Type} {P : Hp → Hp → α → β → Prop} {x : α} {S : Src} {Q : β → Hp → Prop} (h : FinG P X G W σ H (.ok x S) Q) (s : SrcOk G H S) {v : β} {H' : Hp} (sm : Same H H') (p : P H H' x v) : Q v H' := h v H' (Ext.of_same sm) (ext_src s sm) p
end

/-! ### own objects change -/
section
variable {X : KM} {G : Gh} {H H' : Hp} {σ : St} {ρ : En} {S : Src} {i : Nat} {a : Addr} {x y : Vl} {v : V}
theorem lt_of_get {α : Type} {l : List α} {i : Nat} {x : α} (h : l[i]? = some x) : i < l.length := (List.getElem?_eq_some_iff.mp h).1
theorem EO.set (h : EO X G H σ ρ S) (d : Den2 X G H x v) : EO X G H (σ.set i (some v)) (ρ.set i (.fz x)) S where
  same := h.same
  src0 := h.src0
  src := h.src
  len := by rw [List.length_set, List.length_set]; exact h.len
  slot := fun j s hj => by
    by_cases e : i = j
    · subst e
      have hl : i < ρ.length := by have := lt_of_get hj; rwa [List.length_set] at this
      rw [List.getElem?_set_self hl] at hj
      cases hj
      exact ⟨v, by rw [List.getElem?_set_self (by rw [h.len]; exact hl)], d⟩
    · rw [List.getElem?_set_ne e] at hj
      rw [List.getElem?_set_ne e]
      exact h.slot j s hj
  apart := fun j k d e b n hj hk ej ek => by
    by_cases q : i = j
    · subst q
      have hl : i < ρ.length := by have := lt_of_get hj; rwa [List.length_set] at this
      rw [List.getElem?_set_self hl] at hj
      cases hj
    · by_cases q2 : i = k
      · subst q2
        have hl : i < ρ.length := by have := lt_of_get hk; rwa [List.length_set] at this
        rw [List.getElem?_set_self hl] at hk
        cases hk
      · rw [List.getElem?_set_ne q] at hj ej
        rw [List.getElem?_set_ne q2] at hk ek
        exact h.apart j k d e b n hj hk ej ek
theorem EO.drop (h : EO X G H σ ρ S) {w : Option V} : EO X G H (σ.set i w) (ρ.set i .no) S where
  same := h.same
  src0 := h.src0
  src := h.src
  len := by rw [List.length_set, List.length_set]; exact h.len
  slot := fun j s hj => by
    by_cases e : i = j
    · subst e
      have hl : i < ρ.length := by have := lt_of_get hj; rwa [List.length_set] at this
      rw [List.getElem?_set_self hl] at hj
      cases hj
      trivial
    · rw [List.getElem?_set_ne e] at hj
      rw [List.getElem?_set_ne e]
      exact h.slot j s hj
  apart := fun j k d e b n hj hk ej ek => by
    by_cases q : i = j
    · subst q
      have hl : i < ρ.length := by have := lt_of_get hj; rwa [List.length_set] at this
      rw [List.getElem?_set_self hl] at hj
      cases hj
    · by_cases q2 : i = k
      · subst q2
        have hl : i < ρ.length := by have := lt_of_get hk; rwa [List.length_set] at this
        rw [List.getElem?_set_self hl] at hk
        cases hk
      · rw [List.getElem?_set_ne q] at hj ej
        rw [List.getElem?_set_ne q2] at hk ek
        exact h.apart j k d e b n hj hk ej ek
/-- a new own one is laid into slot i -/
theorem EO.setOw (h : EO X G H σ ρ S) (h0 : G.H0 a = none) (od : OwnD X.K H a x) (nw : ∀ (j : Nat) (d : Vl), ρ[j]? = some (.ow d) → σ[j]? ≠ some (some (.ref a))) : EO X G H (σ.set i (some (.ref a))) (ρ.set i (.ow x)) S where
  same := h.same
  src0 := h.src0
  src := h.src
  len := by rw [List.length_set, List.length_set]; exact h.len
  slot := fun j s hj => by
    by_cases e : i = j
    · subst e
      have hl : i < ρ.length := by have := lt_of_get hj; rwa [List.length_set] at this
      rw [List.getElem?_set_self hl] at hj
      cases hj
      exact ⟨a, by rw [List.getElem?_set_self (by rw [h.len]; exact hl)], h0, od⟩
    · rw [List.getElem?_set_ne e] at hj
      rw [List.getElem?_set_ne e]
      exact h.slot j s hj
  apart := fun j k d e b n hj hk ej ek => by
    by_cases q : i = j
    · subst q
      have hl : i < ρ.length := by have := lt_of_get hj; rwa [List.length_set] at this
      rw [List.getElem?_set_self (by rw [h.len]; exact hl)] at ej
      have eb : a = b := by have := Option.some.inj (Option.some.inj ej); cases this; rfl
      subst eb
      rw [List.getElem?_set_ne n] at hk ek
      exact nw k e hk ek
    · by_cases q2 : i = k
      · subst q2
        have hl : i < ρ.length := by have := lt_of_get hk; rwa [List.length_set] at this
        rw [List.getElem?_set_self (by rw [h.len]; exact hl)] at ek
        have eb : a = b := by have := Option.some.inj (Option.some.inj ek); cases this; rfl
        subst eb
        rw [List.getElem?_set_ne (Ne.symm n)] at hj ej
        exact nw j d hj ej
      · rw [List.getElem?_set_ne q] at hj ej
        rw [List.getElem?_set_ne q2] at hk ek
        exact h.apart j k d e b n hj hk ej ek
theorem EO.fresh (h : EO X G H σ ρ S) (hn : H a = none) : ∀ (j : Nat) (d : Vl), ρ[j]? = some (.ow d) → σ[j]? ≠ some (some (.ref a)) := fun j d hj e => by
  obtain ⟨b, e1, _, e3⟩ := h.slot j _ hj
  rw [e] at e1
  have eb : a = b := by have := Option.some.inj (Option.some.inj e1); cases this; rfl
  subst eb
  obtain ⟨u, eu, _⟩ := e3.some
  rw [hn] at eu
  cases eu
theorem EO.none0 (h : EO X G H σ ρ S) (hn : H a = none) : G.H0 a = none := none_up h.same h.src hn
/-- the own object of slot i is changed -/
theorem EO.mut (h : EO X G H σ ρ S) {o : HO} (hi : ρ[i]? = some (.ow x)) (ha : σ[i]? = some (some (.ref a))) (od : OwnD X.K (upd H a o) a y) : EO X G (upd H a o) σ (ρ.set i (.ow y)) S ∧ Pers H (upd H a o) := by
  obtain ⟨b, e1, e2, e3⟩ := h.slot i _ hi
  rw [ha] at e1
  have eb : a = b := by have := Option.some.inj (Option.some.inj e1); cases this; rfl
  subst eb
  obtain ⟨u, eu, _, nf, nt⟩ := e3.some
  have n1 : a ≠ G.a0 := fun z => h.src0.1 (z ▸ e2)
  have n2 : a ≠ G.c0 := fun z => h.src0.2 (z ▸ e2)
  have p : Pers H (upd H a o) := by
    refine ⟨fun b xs z => ?_, fun b o' w z => ?_⟩
    · rw [upd_ne (fun y => by rw [y, eu] at z; exact nt _ (Option.some.inj z))]; exact z
    · rw [upd_ne (fun y => by rw [y, eu] at z; exact nf _ _ (Option.some.inj z))]; exact z
  have hl : i < ρ.length := lt_of_get hi
  refine ⟨⟨fun b w z m1 m2 => ?_, h.src0, ⟨h.src.1, by rw [upd_ne (Ne.symm n1)]; exact h.src.2.1, by rw [upd_ne (Ne.symm n2)]; exact h.src.2.2⟩, by rw [List.length_set]; exact h.len, fun j s hj => ?_, fun j k d e b n hj hk ej ek => ?_⟩, p⟩
  · rw [upd_ne (fun y => by rw [y, e2] at z; cases z)]
    exact h.same b w z m1 m2
  · by_cases e : i = j
    · subst e
      rw [List.getElem?_set_self hl] at hj
      cases hj
      exact ⟨a, ha, e2, od⟩
    · rw [List.getElem?_set_ne e] at hj
      have q := h.slot j s hj
      cases s with
      | no => trivial
      | fz d =>
        obtain ⟨v, f1, f2⟩ := q
        refine ⟨v, f1, ?_⟩
        cases d with
        | dat d => exact Den.pers p d v f2
        | dic kvs => exact DenD.pers p f2
        | src => exact f2
        | ins c f =>
          obtain ⟨b, C, dx, fs, g1, g2, g3, g4⟩ := f2
          refine ⟨b, C, dx, fs, g1, g2, ?_, g4.pers p⟩
          rw [upd_ne (fun y => ?_)]
          · exact g3
          · subst y
            unfold OwnD at e3
            split at e3
            · obtain ⟨xs, z, _⟩ := e3
              rw [z] at g3; cases g3
            · rcases e3 with ⟨ks, z, _⟩ | ⟨ks, z, _⟩
              · rw [z] at g3; cases g3
              · rw [z] at g3; cases g3
            · exact e3
        | exc c f =>
          obtain ⟨b, C, dd, g1, g2, g3, g4⟩ := f2
          refine ⟨b, C, dd, g1, g2, ?_, ?_⟩
          · rw [upd_ne (fun y => ?_)]
            · exact g3
            · subst y
              unfold OwnD at e3
              split at e3
              · obtain ⟨xs, z, _⟩ := e3
                rw [z] at g3; cases g3
              · rcases e3 with ⟨ks, z, _⟩ | ⟨ks, z, _⟩
                · rw [z] at g3; cases g3
                · rw [z] at g3; cases g3
              · exact e3
          · rcases g4 with g4 | ⟨b2, fs, g5, g6, g7⟩
            · exact .inl g4
            · refine .inr ⟨b2, fs, g5, ?_, g7.pers p⟩
              rw [upd_ne (fun y => ?_)]
              · exact g6
              · subst y
                unfold OwnD at e3
                split at e3
                · obtain ⟨xs, z, _⟩ := e3
                  rw [z] at g6; cases g6
                · rcases e3 with ⟨ks, z, _⟩ | ⟨ks, z, _⟩
                  · rw [z] at g6; cases g6
                  · rw [z] at g6; cases g6
                · exact e3
      | ow d =>
        obtain ⟨b, f1, f2, f3⟩ := q
        refine ⟨b, f1, f2, f3.pers p (upd_ne fun y => ?_)⟩
        subst y
        exact h.apart i j x d b e hi hj ha f1
  · by_cases q : i = j
    · subst q
      rw [List.getElem?_set_self hl] at hj
      rw [List.getElem?_set_ne n] at hk
      exact h.apart i k x e b n hi hk ej ek
    · by_cases q2 : i = k
      · subst q2
        rw [List.getElem?_set_ne q] at hj
        exact h.apart j i d x b n hj hi ej ek
      · rw [List.getElem?_set_ne q] at hj
        rw [List.getElem?_set_ne q2] at hk
        exact h.apart j k d e b n hj hk ej ek
end
end L2.HL

namespace L2.HL
open PySem PySem.Spec PyProof.Rows

/-! ### tests -/
def asB (x : Vl) (S : Src) : Out Bool := match x with
  | .dat (.bool b) => .ok b S
  | _ => .stuck
def fAsB (f : EF) : BF := fun ρ S => (f ρ S).bind asB
def fAnd (f g : BF) : BF := fun ρ S => (f ρ S).bind fun b S1 => if b = true then g ρ S1 else .ok false S1
def fOr (f g : BF) : BF := fun ρ S => (f ρ S).bind fun b S1 => if b = true then .ok true S1 else g ρ S1
def fNot (f : BF) : BF := fun ρ S => (f ρ S).bind fun b S1 => .ok (!b) S1
def DW1 (X : Cx) (G : Gh) (W : WX) (e : Expr) (f : BF) : Prop := PW X e (TT1 X.km G W f)
section
variable {X : Cx} {G : Gh} {W : WX} {a b c e : Expr} {rest : List Expr} {f g h : BF} {u v w : EF} {pos : Pos}
theorem PW.weak {X : Cx} {e : Expr} {t t' : TT} (h : PW X e t) (w : ∀ σ H Q, t' σ H Q → t σ H Q) : PW X e t' := ⟨fun wh pins s σ H Q I q => h.run wh pins s σ H Q I (w _ _ _ q)⟩
theorem dTval (h : DV X G W e u) (he : ∀ whole, isTrue e X.env whole = (do let v ← whole; standAt e.pos; holding [v] (truthy v)) := by intro _; rfl) : DT X G W e (fAsB u) :=
  PT.weak (pt_val h he) fun σ H Q q => TR.of (TG1.bind ups_be q.g fun ρ x v S S1 H1 eo eo1 e1 r1 q1 => by
    unfold asB at q1
    split at q1
    · cases (show DB X.km G H H1 (.dat (.bool _)) v from r1).bl
      exact ⟨_, rfl, q1.ret eo1.src rfl⟩
    · exact q1.elim)
theorem dW (h : DW1 X G W e f) : DT X G W e f := PW.pt h
theorem dAnd1 (h : DT X G W a f) : DW1 X G W (.BoolOp .And [a] pos) f := pw_and1 h
theorem dOr1 (h : DT X G W a f) : DW1 X G W (.BoolOp .Or [a] pos) f := pw_or1 h
theorem dAnd (ha : DT X G W a f) (hb : DW1 X G W (.BoolOp .And (b :: rest) pos) g) : DW1 X G W (.BoolOp .And (a :: b :: rest) pos) (fAnd f g) :=
  PW.weak (pw_and ha hb) fun σ H Q q => TT1.of (TG1.bind ups_be q.g fun ρ x v S S1 H1 eo eo1 e1 r1 q1 => by
    subst r1
    cases v with
    | true => exact TT1.of ⟨ρ, S1, eo1, q1⟩
    | false => exact q1.ret eo1.src rfl)
theorem dOr (ha : DT X G W a f) (hb : DW1 X G W (.BoolOp .Or (b :: rest) pos) g) : DW1 X G W (.BoolOp .Or (a :: b :: rest) pos) (fOr f g) :=
  PW.weak (pw_or ha hb) fun σ H Q q => TT1.of (TG1.bind ups_be q.g fun ρ x v S S1 H1 eo eo1 e1 r1 q1 => by
    subst r1
    cases v with
    | false => exact TT1.of ⟨ρ, S1, eo1, q1⟩
    | true => exact q1.ret eo1.src rfl)
theorem dNot (ha : DT X G W a f) : DT X G W (.UnaryOp .Not a pos) (fNot f) :=
  PT.weak (pt_not ha) fun σ H Q q => TT1.of (TG1.bind ups_be q.g fun ρ x v S S1 H1 eo eo1 e1 r1 q1 => by
    subst r1
    exact q1.ret eo1.src rfl)

/-! ### truth values as values -/
def fAndV (u v : EF) : EF := fun ρ S => (u ρ S).bind fun x S1 => (asB x S1).bind fun b S2 => if b = true then v ρ S2 else .ok (.dat (.bool false)) S2
def fOrV (u v : EF) : EF := fun ρ S => (u ρ S).bind fun x S1 => (asB x S1).bind fun b S2 => if b = true then .ok (.dat (.bool true)) S2 else v ρ S2
def fNotV (u : EF) : EF := fun ρ S => (u ρ S).bind fun x S1 => (asB x S1).bind fun b S2 => .ok (.dat (.bool (!b))) S2
def okB (R : Rl) : Prop := ∀ X G H H' b, R X G H H' (.dat (.bool b)) (.bl b)
theorem okB_dn : okB DN := fun X G H H' b => Vl.b_dn b
theorem okB_df : okB DF := fun X G H H' b => by show Den _ _ _ _; unfold Den; rfl
theorem andV_of {R : Rl} (uR : ∀ X G, Ups G (R X G)) (oR : okB R) (ha : DV X G W a u) (hb : PE X (.BoolOp .And (b :: rest) pos) (TR R X.km G W v)) : PE X (.BoolOp .And (a :: b :: rest) pos) (TR R X.km G W (fAndV u v)) :=
  PE.weak (pe_and ha hb) fun σ H Q q => TR.of (TG1.bind (uR _ _) q.g fun ρ x y S S1 H1 eo eo1 e1 r1 q1 => by
    unfold asB at q1
    split at q1
    · cases (show DB X.km G H H1 (.dat (.bool _)) y from r1).bl
      rename_i k
      refine ⟨k, rfl, ?_⟩
      cases k with
      | true => exact TR.of ⟨ρ, S1, eo1, q1⟩
      | false => exact q1.ret eo1.src (oR _ _ _ _ _)
    · exact q1.elim)
theorem orV_of {R : Rl} (uR : ∀ X G, Ups G (R X G)) (oR : okB R) (ha : DV X G W a u) (hb : PE X (.BoolOp .Or (b :: rest) pos) (TR R X.km G W v)) : PE X (.BoolOp .Or (a :: b :: rest) pos) (TR R X.km G W (fOrV u v)) :=
  PE.weak (pe_or ha hb) fun σ H Q q => TR.of (TG1.bind (uR _ _) q.g fun ρ x y S S1 H1 eo eo1 e1 r1 q1 => by
    unfold asB at q1
    split at q1
    · cases (show DB X.km G H H1 (.dat (.bool _)) y from r1).bl
      rename_i k
      refine ⟨k, rfl, ?_⟩
      cases k with
      | false => exact TR.of ⟨ρ, S1, eo1, q1⟩
      | true => exact q1.ret eo1.src (oR _ _ _ _ _)
    · exact q1.elim)
theorem dAndV (ha : DV X G W a u) (hb : DE X G W (.BoolOp .And (b :: rest) pos) v) : DE X G W (.BoolOp .And (a :: b :: rest) pos) (fAndV u v) := andV_of (fun _ _ => ups_df) okB_df ha hb
theorem dOrV (ha : DV X G W a u) (hb : DE X G W (.BoolOp .Or (b :: rest) pos) v) : DE X G W (.BoolOp .Or (a :: b :: rest) pos) (fOrV u v) := orV_of (fun _ _ => ups_df) okB_df ha hb
theorem dOne {op : BoolOp} (ha : DE X G W a u) : DE X G W (.BoolOp op [a] pos) u := pe_one ha
theorem dNotV (ha : DV X G W a u) : DO X G W (.UnaryOp .Not a pos) (fNotV u) :=
  PE.weak (pe_not ha) fun σ H Q q => TR.of (TG1.bind ups_dn q.g fun ρ x y S S1 H1 eo eo1 e1 r1 q1 => by
    unfold asB at q1
    split at q1
    · cases (show DB X.km G H H1 (.dat (.bool _)) y from r1).bl
      exact ⟨_, rfl, q1.ret eo1.src (Vl.b_dn _)⟩
    · exact q1.elim)
/-! ### a if c else b -/
def fIf (f : BF) (u v : EF) : EF := fun ρ S => (f ρ S).bind fun b S1 => if b = true then u ρ S1 else v ρ S1
theorem if_of {R : Rl} (uR : ∀ X G, Ups G (R X G)) (hc : DT X G W c f) (ha : PE X a (TR R X.km G W u)) (hb : PE X b (TR R X.km G W v)) : PE X (.IfExp c a b pos) (TR R X.km G W (fIf f u v)) :=
  PE.weak (pe_ifExp hc ha hb) fun σ H Q q => TT1.of (TG1.bind (uR _ _) q.g fun ρ x y S S1 H1 eo eo1 e1 r1 q1 => by
    subst r1
    cases y with
    | true => exact TR.of ⟨ρ, S1, eo1, q1⟩
    | false => exact TR.of ⟨ρ, S1, eo1, q1⟩)
theorem dIf (hc : DT X G W c f) (ha : DE X G W a u) (hb : DE X G W b v) : DE X G W (.IfExp c a b pos) (fIf f u v) := if_of (fun _ _ => ups_df) hc ha hb
theorem dIfO (hc : DT X G W c f) (ha : DO X G W a u) (hb : DO X G W b v) : DO X G W (.IfExp c a b pos) (fIf f u v) := if_of (fun _ _ => ups_dn) hc ha hb
/-! ### is None -/
def isNo : Vl → Bool
  | .dat .none => true
  | _ => false
def isV : Vl → Vl → Option Bool
  | x, .dat .none => some (isNo x)
  | .dat (.bool a), .dat (.bool b) => some (decide (a = b))
  | _, _ => none
def isnV (x y : Vl) : Option Bool := (isV x y).map not
theorem DB.isNon {X : KM} {H H0 : Hp} {x : Vl} {v : V} (h : DB X G H0 H x v) : isNo x = decide (v = .non) := by
  rcases h with h | ⟨a, e, _, _, od⟩
  · cases x with
    | dat d =>
      have h : Den X.K H d v := h
      cases d <;> unfold Den at h
      case none => subst h; rfl
      case bool => subst h; rfl
      case int => subst h; rfl
      case str => subst h; rfl
      case list => obtain ⟨a, xs, e, _⟩ := h; subst e; rfl
      case tuple => obtain ⟨a, xs, e, _⟩ := h; subst e; rfl
      case dict => exact h.elim
    | dic kvs => obtain ⟨a, e, _⟩ := h; subst e; rfl
    | src => have h : v = .ref _ := h; subst h; rfl
    | ins c f => obtain ⟨a, _, _, _, e, _⟩ := h; subst e; rfl
    | exc c f => obtain ⟨a, _, _, e, _⟩ := h; subst e; rfl
  · subst e
    cases x with
    | dat d => cases d <;> first | rfl | exact od.elim
    | _ => rfl
theorem or_is : OpR X (compareOp .Is) (rC X isV G) := by
  intro pins s σ H x y v u Q I rx ry h
  obtain ⟨d, e, r, hd, he, hf, q⟩ := h
  unfold isV at hf
  split at hf
  · cases hf
    have e2 := he.non
    subst e2
    rw [hd.isNon] at q
    exact op_isN1 pins s σ H _ _ v u Q I rx ry ⟨rfl, q⟩
  · cases hf
    have e1 := hd.bl
    have e2 := he.bl
    subst e1 e2
    exact op_isBl pins s σ H _ _ v u Q I rx ry ⟨_, _, rfl, rfl, q⟩
  · cases hf
theorem or_isn : OpR X (compareOp .IsNot) (rC X isnV G) := by
  intro pins s σ H x y v u Q I rx ry h
  obtain ⟨d, e, r, hd, he, hf, q⟩ := h
  unfold isnV isV at hf
  split at hf
  · cases hf
    have e2 := he.non
    subst e2
    rw [hd.isNon] at q
    exact op_notN1 pins s σ H _ _ v u Q I rx ry ⟨rfl, q⟩
  · cases hf
    have e1 := hd.bl
    have e2 := he.bl
    subst e1 e2
    exact op_notBl pins s σ H _ _ v u Q I rx ry ⟨_, _, rfl, rfl, q⟩
  · cases hf
/-! ### a < b < c -/
def fCh (F F' : Vl → Vl → Option Bool) (u v w : EF) : BF := fun ρ S => (u ρ S).bind fun x S1 => (v ρ S1).bind fun y S2 => (cpF F x y S2).bind fun b S3 => if b = true then (w ρ S3).bind fun z S4 => cpF F' y z S4 else .ok false S3
theorem ch_of {op op' : CmpOp} {F F' : Vl → Vl → Option Bool} {σ : St} {H : Hp} {Q : Bool → Hp → Prop} {Q' : VK} (q : TT1 X.km G W (fCh F F' u v w) σ H Q) (k : ∀ b H', Q b H' → Q' (.bl b) H') :
    tChain (rC X F G) (rC X F' G) (TR DB X.km G W u) (TR DB X.km G W v) (TR DB X.km G W w) σ H Q' := TR.of (TG1.bind ups_be q.g fun ρ x x' S S1 H1 eo eo1 e1 r1 q1 => TR.of (TG1.bind (f := v) (k := fun ρ y S2 => (cpF F x y S2).bind fun b S3 => if b = true then (w ρ S3).bind fun z S4 => cpF F' y z S4 else .ok false S3) ups_be ⟨ρ, S1, eo1, q1⟩ fun ρ y y' S' S2 H2 eo' eo2 e2 r2 q2 => by
    unfold cpF at q2
    cases e : F x y with
    | none => rw [e] at q2; exact q2.elim
    | some b =>
      rw [e] at q2
      refine ⟨x, y, b, DB.ext eo'.src e2 r1, r2, e, b, rfl, ?_⟩
      simp only [ofO_some, Out.bind_ok] at q2
      cases b with
      | false => exact k _ _ (q2.ret eo2.src rfl)
      | true =>
        exact TR.of (TG1.bind (f := w) (k := fun ρ z S4 => ofO (F' y z) S4) ups_be ⟨ρ, S2, eo2, q2⟩ fun ρ z z' S'' S3 H3 eo'' eo3 e3 r3 q3 => by
          cases e' : F' y z with
          | none => rw [e'] at q3; exact q3.elim
          | some k' =>
            rw [e'] at q3
            exact ⟨y, z, k', DB.ext eo''.src e3 r2, r3, e', k _ _ (q3.ret eo3.src rfl)⟩)))
theorem dCh {op op' : CmpOp} {F F' : Vl → Vl → Option Bool} (ho : OpR X (compareOp op) (rC X F G)) (ho' : OpR X (compareOp op') (rC X F' G)) (ha : DV X G W a u) (hb : DV X G W b v) (hc : DV X G W c w)
    (hm : lastMarks [op, op'] [b, c] = false := by with_unfolding_all rfl) : DT X G W (.Compare a [op, op'] [b, c] pos) (fCh F F' u v w) :=
  PT.weak (pt_chain ho ho' ha hb hc hm) fun σ H Q q => ch_of (op := op) (op' := op') q fun b H' z => ⟨b, rfl, z⟩
/-- .. as a value -/
theorem dChV {op op' : CmpOp} {F F' : Vl → Vl → Option Bool} (ho : OpR X (compareOp op) (rC X F G)) (ho' : OpR X (compareOp op') (rC X F' G)) (ha : DV X G W a u) (hb : DV X G W b v) (hc : DV X G W c w)
    (hm : lastMarks [op, op'] [b, c] = false := by with_unfolding_all rfl) : DO X G W (.Compare a [op, op'] [b, c] pos) (fB (fCh F F' u v w)) :=
  PE.weak (pe_chain ho ho' ha hb hc hm) fun σ H Q ⟨ρ, S, eo, q⟩ => by
    refine ch_of (op := op) (op' := op') (Q := fun b H' => Q (.bl b) H') ⟨ρ, S, eo, ?_⟩ fun b H' z => z
    unfold fB at q
    cases e : fCh F F' u v w ρ S with
    | stuck => rw [e] at q; exact q.elim
    | exn c a S' => rw [e] at q; exact q
    | ok b S' =>
      rw [e] at q
      exact fun H' e1 s1 => q (.bl b) H' e1 s1 (.inr ⟨rfl, by show Den _ _ _ _; unfold Den; rfl⟩)
end
end L2.HL

namespace L2.HL
open PySem PySem.Spec PyProof.Rows

/-! ### what a statement does -/
inductive SOut where
  | nx (ρ : En) (S : Src)
  | rt (x : Vl) (S : Src)
  | bk (ρ : En) (S : Src)
  | ct (ρ : En) (S : Src)
  | exn (c : Str) (f : Flds) (ρ : En) (S : Src)
  | stuck
abbrev SF := En → Src → SOut
/-- what a return hands over -/
abbrev RL := KM → Gh → Hp → Vl → V → Prop
def rtF : RL := fun X G H x v => Den2 X G H x v
def rtN : RL := fun X G H x v => DN X G G.H0 H x v
def FinS (RR : RL) (X : KM) (G : Gh) (W : WX) (H : Hp) (D : Ends) (o : SOut) : Prop := match o with
  | .nx ρ S => ∀ σ' H', EO X G H' σ' ρ S → Pers H H' → D.nx σ' H'
  | .bk ρ S => ∀ σ' H', EO X G H' σ' ρ S → Pers H H' → D.bk σ' H'
  | .ct ρ S => ∀ σ' H', EO X G H' σ' ρ S → Pers H H' → D.ct σ' H'
  | .rt x S => ∀ v H', Ext G G.H0 H' → SrcOk G H' S → RR X G H' x v → D.rt v H'
  | .exn c f ρ S => ∀ cls d σ' H', EO X G H' σ' ρ S → Pers H H' → ExnD X H' c f cls d → W cls d σ' H'
  | .stuck => False
def TSR (RR : RL) (X : KM) (G : Gh) (W : WX) (f : SF) : TS := fun D σ H => ∃ ρ S, EO X G H σ ρ S ∧ FinS RR X G W H D (f ρ S)
def DS1 (RR : RL) (X : Cx) (G : Gh) (W : WX) (st : Stmt) (f : SF) : Prop := PS X st (TSR RR X.km G W f)
def DS (RR : RL) (X : Cx) (G : Gh) (W : WX) (st : List Stmt) (f : SF) : Prop := PSs X st (TSR RR X.km G W f)
def SOut.seq (o : SOut) (g : SF) : SOut := match o with
  | .nx ρ S => g ρ S
  | o => o
def SOut.letV {α : Type} (o : Out α) (ρ : En) (k : α → Src → SOut) : SOut := match o with
  | .ok x S => k x S
  | .exn c f S => .exn c f ρ S
  | .stuck => .stuck
@[simp] theorem SOut.seq_nx (ρ : En) (S : Src) (g : SF) : (SOut.nx ρ S).seq g = g ρ S := rfl
@[simp] theorem SOut.seq_rt (x : Vl) (S : Src) (g : SF) : (SOut.rt x S).seq g = .rt x S := rfl
@[simp] theorem SOut.seq_bk (ρ : En) (S : Src) (g : SF) : (SOut.bk ρ S).seq g = .bk ρ S := rfl
@[simp] theorem SOut.seq_ct (ρ : En) (S : Src) (g : SF) : (SOut.ct ρ S).seq g = .ct ρ S := rfl
@[simp] theorem SOut.seq_exn (c : Str) (f : Flds) (ρ : En) (S : Src) (g : SF) : (SOut.exn c f ρ S).seq g = .exn c f ρ S := rfl
@[simp] theorem SOut.seq_stuck (g : SF) : SOut.stuck.seq g = .stuck := rfl
@[simp] theorem SOut.letV_ok {α : Type} (x : α) (S : Src) (ρ : En) (k : α → Src → SOut) : SOut.letV (.ok x S) ρ k = k x S := rfl
@[simp] theorem SOut.letV_exn {α : Type} (c : Str) (f : Flds) (S : Src) (ρ : En) (k : α → Src → SOut) : SOut.letV (.exn c f S : Out α) ρ k = .exn c f ρ S := rfl
@[simp] theorem SOut.letV_stuck {α : Type} (ρ : En) (k : α → Src → SOut) : SOut.letV (.stuck : Out α) ρ k = .stuck := rfl
section
variable {X : KM} {G : Gh} {W : WX} {RR : RL} {H H1 : Hp} {σ : St} {ρ : En} {S S1 : Src} {D : Ends}
theorem FinS.up (p : Pers H H1) {o : SOut} (h : FinS RR X G W H D o) : FinS RR X G W H1 D o := by
  unfold FinS at h ⊢
  cases o with
  | nx ρ S => exact fun σ' H' a b => h σ' H' a (p.trans b)
  | bk ρ S => exact fun σ' H' a b => h σ' H' a (p.trans b)
  | ct ρ S => exact fun σ' H' a b => h σ' H' a (p.trans b)
  | rt x S => exact h
  | exn c f ρ S => exact fun cls d σ' H' a b c => h cls d σ' H' a (p.trans b) c
  | stuck => exact h
/-- an expression first -/
theorem SOut.use {α β : Type} {P : Hp → Hp → α → β → Prop} {o : Out α} {k : α → Src → SOut} (eo : EO X G H σ ρ S) (h : FinS RR X G W H D (SOut.letV o ρ k)) {Q : β → Hp → Prop}
    (hk : ∀ x v S1 H1, o = .ok x S1 → EO X G H1 σ ρ S1 → Ext G H H1 → P H H1 x v → FinS RR X G W H1 D (k x S1) → Q v H1) : FinG P X G W σ H o Q := by
  unfold FinG
  cases o with
  | stuck => exact h
  | exn c a S' => exact fun cls d H' a b c => h cls d σ H' (eo.ext a b) (Ext.pers eo.src a) c
  | ok x S1 => exact fun v H1 a b c => hk x v S1 H1 rfl (eo.ext a b) a c (FinS.up (Ext.pers eo.src a) h)
theorem FinS.next (h : FinS RR X G W H D (.nx ρ S)) (eo : EO X G H σ ρ S) : D.nx σ H := h σ H eo (Pers.refl H)
end
section
variable {X : Cx} {G : Gh} {W : WX} {RR : RL} {st : Stmt} {rest : List Stmt} {f g : SF} {pos : Pos} {c e : Expr} {u : EF} {b : BF}
theorem dsNil : DS RR X G W [] .nx := PSs.weak pss_nil fun D σ H ⟨ρ, S, eo, h⟩ => FinS.next h eo
def sSeq (f g : SF) : SF := fun ρ S => (f ρ S).seq g
theorem seq_of {t : TS → TS} {D : Ends} {σ : St} {H : Hp} (h : TSR RR X.km G W (sSeq f g) D σ H) : TSR RR X.km G W f { D with nx := TSR RR X.km G W g D } σ H := by
  obtain ⟨ρ, S, eo, h⟩ := h
  refine ⟨ρ, S, eo, ?_⟩
  unfold sSeq at h
  cases e : f ρ S with
  | nx ρ1 S1 =>
    rw [e] at h
    exact fun σ' H' a b => ⟨ρ1, S1, a, FinS.up b h⟩
  | bk ρ S => rw [e] at h; exact h
  | ct ρ S => rw [e] at h; exact h
  | rt x S => rw [e] at h; exact h
  | exn c f ρ S => rw [e] at h; exact h
  | stuck => rw [e] at h; exact h
theorem dsCons (h1 : DS1 RR X G W st f) (h2 : DS RR X G W rest g) : DS RR X G W (st :: rest) (sSeq f g) := PSs.weak (pss_cons h1 h2) fun D σ H h => seq_of (t := id) h
theorem dsOne (h1 : DS1 RR X G W st f) : DS RR X G W [st] f := pss_one h1
theorem dPass : DS1 RR X G W (.Pass pos) .nx := PS.weak ps_pass fun D σ H ⟨ρ, S, eo, h⟩ => FinS.next h eo
theorem dBreak : DS1 RR X G W (.Break pos) .bk := PS.weak ps_break fun D σ H ⟨ρ, S, eo, h⟩ => h σ H eo (Pers.refl H)
theorem dContinue : DS1 RR X G W (.Continue pos) .ct := PS.weak ps_continue fun D σ H ⟨ρ, S, eo, h⟩ => h σ H eo (Pers.refl H)
def sDrop (u : EF) : SF := fun ρ S => SOut.letV (u ρ S) ρ fun _ S1 => .nx ρ S1
theorem dDrop (h : DV X G W e u) (hs : swapsWith e none pos.line X.env = pure false := by rfl) : DS1 RR X G W (.Expr e pos) (sDrop u) := PS.weak (ps_expr h hs) fun D σ H ⟨ρ, S, eo, q⟩ =>
  TR.of ⟨ρ, S, eo, SOut.use eo q fun x v S1 H1 _ eo1 e1 r1 q1 => FinS.next q1 eo1⟩
def sRet (u : EF) : SF := fun ρ S => SOut.letV (u ρ S) ρ fun x S1 => .rt x S1
theorem dRet (h : DE X G W e u) : DS1 rtF X G W (.Return (some e) pos) (sRet u) := PS.weak (ps_ret h) fun D σ H ⟨ρ, S, eo, q⟩ =>
  TR.of ⟨ρ, S, eo, SOut.use eo q fun x v S1 H1 _ eo1 e1 r1 q1 => q1 v H1 eo1.same eo1.src r1⟩
theorem dRetO (h : DO X G W e u) : DS1 rtN X G W (.Return (some e) pos) (sRet u) := PS.weak (ps_ret h) fun D σ H ⟨ρ, S, eo, q⟩ =>
  TR.of ⟨ρ, S, eo, SOut.use eo q fun x v S1 H1 _ eo1 e1 r1 q1 => q1 v H1 eo1.same eo1.src (dn_up eo.same eo.src r1)⟩
/-- an own list or dict is handed over -/
def fOwn (i : Nat) : EF := fun ρ S => match ρ[i]? with
  | some (.ow x) => if x.box = true then .ok x S else .stuck
  | _ => .stuck
theorem dRetV {x : Str} {p : Pos} (i : Nat) (hN : X.N[i]? = some x := by rfl) (hv : Vis X.env.scope x := by first | exact Or.inl rfl | exact Or.inr (Or.inl rfl) | exact Or.inr (Or.inr rfl)) (hd : (x == ("__debug__" : Str)) = false := by decide)
    (hcd : (x == ("__classdict__" : Str)) = false := by decide) : DS1 rtN X G W (.Return (some (.Name x p)) pos) (sRet (fOwn i)) := PS.weak (ps_ret (pe_var hN hv hd hcd)) fun D σ H ⟨ρ, S, eo, q⟩ => by
  unfold sRet fOwn at q
  cases e : ρ[i]? with
  | none => rw [e] at q; exact q.elim
  | some s =>
    rw [e] at q
    cases s with
    | no => exact q.elim
    | fz d => exact q.elim
    | ow d =>
      dsimp only at q
      split at q
      · rename_i hb
        obtain ⟨a, e1, e2, e3⟩ := eo.slot i _ e
        exact ⟨_, e1, q _ H eo.same eo.src (.inl ⟨hb, a, rfl, e2, e3⟩)⟩
      · exact q.elim
theorem dRetN : DS1 rtF X G W (.Return none pos) (fun _ S => .rt (.dat .none) S) := PS.weak ps_retN fun D σ H ⟨ρ, S, eo, q⟩ => q _ H eo.same eo.src (by show Den _ _ _ _; unfold Den; rfl)
def sIf (b : BF) (f g : SF) : SF := fun ρ S => SOut.letV (b ρ S) ρ fun t S1 => if t = true then f ρ S1 else g ρ S1
theorem dsIf {l r : List Stmt} (hc : DT X G W c b) (h1 : DS RR X G W l f) (h2 : DS RR X G W r g) : DS1 RR X G W (.If c l r pos) (sIf b f g) := PS.weak (ps_if hc h1 h2) fun D σ H ⟨ρ, S, eo, q⟩ =>
  TT1.of ⟨ρ, S, eo, SOut.use eo q fun x v S1 H1 _ eo1 e1 r1 q1 => by
    subst r1
    cases v with
    | true => exact ⟨ρ, S1, eo1, q1⟩
    | false => exact ⟨ρ, S1, eo1, q1⟩⟩
/-! ### names are set -/
def sSet (i : Nat) (u : EF) : SF := fun ρ S => SOut.letV (u ρ S) ρ fun x S1 => .nx (ρ.set i (.fz x)) S1
def sOwn (i : Nat) (u : EF) : SF := fun ρ S => SOut.letV (u ρ S) ρ fun x S1 => if x.box = true then .nx (ρ.set i (.ow x)) S1 else .stuck
theorem set_of {i : Nat} {D : Ends} {σ : St} {H : Hp} (q : TSR RR X.km G W (sSet i u) D σ H) : tAsg (TR DF X.km G W u) (gName i) D σ H := by
  obtain ⟨ρ, S, eo, q⟩ := q
  exact TR.of ⟨ρ, S, eo, SOut.use eo q fun x v S1 H1 _ eo1 e1 r1 q1 => FinS.next q1 (eo1.set r1)⟩
theorem own_of {i : Nat} {D : Ends} {σ : St} {H : Hp} (q : TSR RR X.km G W (sOwn i u) D σ H) : tAsg (TR DN X.km G W u) (gName i) D σ H := by
  obtain ⟨ρ, S, eo, q⟩ := q
  refine TR.of ⟨ρ, S, eo, SOut.use eo q fun x v S1 H1 _ eo1 e1 r1 q1 => ?_⟩
  split at q1
  · rename_i hb
    rcases r1 with ⟨_, a, ev, hn, od⟩ | ⟨hb', _⟩
    · subst ev
      refine FinS.next q1 (eo1.setOw (eo.none0 hn) od fun j d hj e => ?_)
      exact eo.fresh hn j d hj e
    · rw [hb] at hb'; cases hb'
  · exact q1.elim
theorem dSet {i : Nat} {x : Str} {p : Pos} (h : DE X G W e u) (hN : X.N.Nodup) (hi : X.N[i]? = some x := by rfl) (hx : Loc X.env.scope x := by first | exact Or.inl rfl | exact Or.inr rfl) (hs : swapsWith e (some (.Name x p)) pos.line X.env = pure false := by rfl)
    (hf : X.fn x = true ∨ X.env.scope.names.lookup x = some .local := by first | exact .inl rfl | exact .inr rfl | assumption) : DS1 RR X G W (.Assign [.Name x p] e pos) (sSet i u) := PS.weak (ps_set hN hi hx h hs hf) fun D σ H q => set_of q
theorem dOwn {i : Nat} {x : Str} {p : Pos} (h : DO X G W e u) (hN : X.N.Nodup) (hi : X.N[i]? = some x := by rfl) (hx : Loc X.env.scope x := by first | exact Or.inl rfl | exact Or.inr rfl) (hs : swapsWith e (some (.Name x p)) pos.line X.env = pure false := by rfl)
    (hf : X.fn x = true ∨ X.env.scope.names.lookup x = some .local := by first | exact .inl rfl | exact .inr rfl | assumption) : DS1 RR X G W (.Assign [.Name x p] e pos) (sOwn i u) := PS.weak (ps_set hN hi hx h hs hf) fun D σ H q => own_of q
/-! ### an own list or dict is frozen (nothing happens) -/
def sFz (i : Nat) (f : SF) : SF := fun ρ S => match ρ[i]? with
  | some (.ow x) => f (ρ.set i (.fz x)) S
  | some (.fz x) => f ρ S
  | _ => .stuck
theorem EO.freeze {X : Cx} {pins : List (Addr × Obj)} {σ : St} {H : Hp} {s : Shared} {ρ : En} {S : Src} {i : Nat} {x : Vl} (I : Inv X pins σ H s) (h : EO X.km G H σ ρ S) (hi : ρ[i]? = some (.ow x)) :
    ∃ H', Inv X pins σ H' s ∧ EO X.km G H' σ (ρ.set i (.fz x)) S ∧ Pers H H' := by
  obtain ⟨a, e1, e2, od⟩ := h.slot i _ hi
  obtain ⟨w, ew, mu, nf, nt⟩ := od.some
  obtain ⟨ob, I2⟩ := I.lock ew mu
  have n1 : a ≠ G.a0 := fun z => h.src0.1 (z ▸ e2)
  have n2 : a ≠ G.c0 := fun z => h.src0.2 (z ▸ e2)
  have p2 : Pers H (upd H a (.frz ob w)) := by
    refine ⟨fun b xs z => ?_, fun b o u z => ?_⟩
    · rw [upd_ne (fun y => by rw [y, ew] at z; exact nt _ (Option.some.inj z))]; exact z
    · rw [upd_ne (fun y => by rw [y, ew] at z; exact nf _ _ (Option.some.inj z))]; exact z
  have hl : i < ρ.length := lt_of_get hi
  have dx : Den2 X.km G (upd H a (.frz ob w)) x (.ref a) := by
    unfold OwnD at od
    split at od
    · obtain ⟨xs, f1, f2⟩ := od
      rw [ew] at f1; cases f1
      show Den X.K _ _ _
      unfold Den
      exact ⟨a, xs, rfl, ⟨ob, upd_same⟩, DenL.pers p2 _ _ f2⟩
    · rcases od with ⟨ks, f1, f2⟩ | ⟨ks, f1, f2⟩
      · rw [ew] at f1; cases f1
        exact ⟨a, rfl, .inl ⟨ob, ks, upd_same, DenK.pers p2 _ _ f2⟩⟩
      · rw [ew] at f1; cases f1
        exact ⟨a, rfl, .inr ⟨ob, ks, upd_same, DenT.pers p2 _ _ f2⟩⟩
    · exact od.elim
  refine ⟨_, I2, ⟨fun b o z m1 m2 => ?_, h.src0, ⟨h.src.1, by rw [upd_ne (Ne.symm n1)]; exact h.src.2.1, by rw [upd_ne (Ne.symm n2)]; exact h.src.2.2⟩, by rw [List.length_set]; exact h.len, fun j t hj => ?_, fun j k d e b n hj hk ej ek => ?_⟩, p2⟩
  · rw [upd_ne (fun y => by rw [y, e2] at z; cases z)]
    exact h.same b o z m1 m2
  · by_cases e : i = j
    · subst e
      rw [List.getElem?_set_self hl] at hj
      cases hj
      exact ⟨_, e1, dx⟩
    · rw [List.getElem?_set_ne e] at hj
      have q := h.slot j t hj
      have old : ∀ (b : Addr) (o : HO), H b = some o → (∀ z, o ≠ w ∨ z = b) → upd H a (.frz ob w) b = some o ∨ b = a := fun b o z _ => by
        by_cases y : b = a
        · exact .inr y
        · exact .inl (by rw [upd_ne y]; exact z)
      cases t with
      | no => trivial
      | fz d =>
        obtain ⟨v, f1, f2⟩ := q
        refine ⟨v, f1, ?_⟩
        have isI : ∀ (b C dx : Addr) (fs : List (Str × V)), H b = some (.ins C dx fs) → b ≠ a := fun b C dx fs z y => by
          rw [y, ew] at z
          cases z
          unfold OwnD at od
          split at od
          · obtain ⟨xs, f1, _⟩ := od; rw [ew] at f1; cases f1
          · rcases od with ⟨ks, f1, _⟩ | ⟨ks, f1, _⟩
            · rw [ew] at f1; cases f1
            · rw [ew] at f1; cases f1
          · exact od
        have isE : ∀ (b C : Addr) (d : Option Addr), H b = some (ExV C d b) → b ≠ a := fun b C d z y => by
          rw [y, ew] at z
          cases z
          unfold OwnD at od
          split at od
          · obtain ⟨xs, f1, _⟩ := od; rw [ew] at f1; cases f1
          · rcases od with ⟨ks, f1, _⟩ | ⟨ks, f1, _⟩
            · rw [ew] at f1; cases f1
            · rw [ew] at f1; cases f1
          · exact od
        have isX : ∀ (b : Addr) (fs : List (Str × V)), H b = some (.xd fs) → b ≠ a := fun b fs z y => by
          rw [y, ew] at z
          cases z
          unfold OwnD at od
          split at od
          · obtain ⟨xs, f1, _⟩ := od; rw [ew] at f1; cases f1
          · rcases od with ⟨ks, f1, _⟩ | ⟨ks, f1, _⟩
            · rw [ew] at f1; cases f1
            · rw [ew] at f1; cases f1
          · exact od
        cases d with
        | dat d => exact Den.pers p2 d v f2
        | dic kvs => exact DenD.pers p2 f2
        | src => exact f2
        | ins c f =>
          obtain ⟨b, C, dx, fs, g1, g2, g3, g4⟩ := f2
          exact ⟨b, C, dx, fs, g1, g2, by rw [upd_ne (isI _ _ _ _ g3)]; exact g3, g4.pers p2⟩
        | exc c f =>
          obtain ⟨b, C, dd, g1, g2, g3, g4⟩ := f2
          refine ⟨b, C, dd, g1, g2, by rw [upd_ne (isE _ _ _ g3)]; exact g3, ?_⟩
          rcases g4 with g4 | ⟨b2, fs, g5, g6, g7⟩
          · exact .inl g4
          · exact .inr ⟨b2, fs, g5, by rw [upd_ne (isX _ _ g6)]; exact g6, g7.pers p2⟩
      | ow d =>
        obtain ⟨b, f1, f2, f3⟩ := q
        refine ⟨b, f1, f2, f3.pers p2 (upd_ne fun y => ?_)⟩
        subst y
        exact h.apart i j x d b e hi hj e1 f1
  · by_cases q : i = j
    · subst q
      rw [List.getElem?_set_self hl] at hj
      cases hj
    · by_cases q2 : i = k
      · subst q2
        rw [List.getElem?_set_self hl] at hk
        cases hk
      · rw [List.getElem?_set_ne q] at hj
        rw [List.getElem?_set_ne q2] at hk
        exact h.apart j k d e b n hj hk ej ek
theorem fz_of {i : Nat} {pins : List (Addr × Obj)} {σ : St} {H : Hp} {s : Shared} {D : Ends} (I : Inv X pins σ H s) (q : TSR RR X.km G W (sFz i f) D σ H) : ∃ H', Inv X pins σ H' s ∧ TSR RR X.km G W f D σ H' := by
  obtain ⟨ρ, S, eo, q⟩ := q
  unfold sFz at q
  cases e : ρ[i]? with
  | none => rw [e] at q; exact q.elim
  | some t =>
    rw [e] at q
    cases t with
    | no => exact q.elim
    | fz d => exact ⟨H, I, ρ, S, eo, q⟩
    | ow d =>
      obtain ⟨H', I', eo', p⟩ := EO.freeze I eo e
      exact ⟨H', I', _, S, eo', FinS.up p q⟩
theorem dsFz (i : Nat) (h : DS RR X G W rest f) : DS RR X G W rest (sFz i f) := ⟨fun pins s σ H D I q => by
  obtain ⟨H', I', q'⟩ := fz_of I q
  exact h.run pins s σ H' D I' q'⟩
theorem dFz (i : Nat) (h : DS1 RR X G W st f) : DS1 RR X G W st (sFz i f) := ⟨fun pins s σ H D I q => by
  obtain ⟨H', I', q'⟩ := fz_of I q
  exact h.run pins s σ H' D I' q'⟩
/-! ### while -/
def sWhile (b : BF) (f : SF) : Nat → SF
  | 0 => fun _ _ => .stuck
  | n + 1 => fun ρ S => SOut.letV (b ρ S) ρ fun t S1 => if t = true then (match f ρ S1 with
    | .nx ρ' S' => sWhile b f n ρ' S'
    | .ct ρ' S' => sWhile b f n ρ' S'
    | .bk ρ' S' => .nx ρ' S'
    | o => o) else .nx ρ S1
theorem dWhile {body : List Stmt} (n : Nat) (hp : PassesOwn (model X.prog X.w) X.A X.env X.xe) (hc : DT X G W c b) (hb : DS RR X G W body f) : DS1 RR X G W (.While c body [] pos) (sWhile b f n) := PS.weak (ps_while hp hc hb) fun D σ H q =>
  ⟨fun m σ' H' => TSR RR X.km G W (sWhile b f m) D σ' H', ⟨n, q⟩, fun m σ' H' ⟨ρ, S, eo, q⟩ => by
    cases m with
    | zero => exact q.elim
    | succ m =>
      refine TT1.of ⟨ρ, S, eo, SOut.use eo q fun x v S1 H1 _ eo1 e1 r1 q1 => ?_⟩
      subst r1
      cases v with
      | false => exact FinS.next q1 eo1
      | true =>
        refine ⟨fun σ' H' => TSR RR X.km G W (sWhile b f m) D σ' H', fun σ' H' h => ⟨m, Nat.lt_succ_self m, h⟩, ρ, S1, eo1, ?_⟩
        rw [if_pos rfl] at q1
        cases e : f ρ S1 with
        | nx ρ' S' => rw [e] at q1; exact fun σ' H' a b => ⟨ρ', S', a, FinS.up b q1⟩
        | ct ρ' S' => rw [e] at q1; exact fun σ' H' a b => ⟨ρ', S', a, FinS.up b q1⟩
        | bk ρ' S' => rw [e] at q1; exact q1
        | rt x S' => rw [e] at q1; exact q1
        | exn c a ρ' S' => rw [e] at q1; exact q1
        | stuck => rw [e] at q1; exact q1⟩
end
end L2.HL

set_option maxHeartbeats 8000000
/-! defs: what one is worth is a plain function of the data that it is given and of the source -/
namespace L2.HL
open PySem PySem.Spec PyProof.Rows
abbrev Fm := List Vl → Src → Out Vl
/-- the promise of a def -/
def spD (RR : RL) (X : KM) (F : Fm) : Sp := fun vs H Q E => ∃ G xs S, G.H0 = H ∧ SrcOk G H S ∧ AllD X G H xs vs ∧ match F xs S with
  | .ok x S' => ∀ v H', Ext G H H' → SrcOk G H' S' → RR X G H' x v → Q v H'
  | .exn c f S' => ∀ cls d H', Ext G H H' → SrcOk G H' S' → ExnD X H' c f cls d → E cls d H'
  | .stuck => False
/-- a promise may be told by any function that agrees where the first isn't stuck -/
def fCall (F : Fm) (g : AF) : EF := fun ρ S => (g ρ S).bind F
section
variable {X : KM} {G : Gh} {H H1 : Hp} {x : Vl} {v : V}
theorem Den2.re {h0 : Hp} (d : Den2 X { G with H0 := h0 } H x v) : Den2 X G H x v := by
  cases x <;> exact d
theorem Den2.un {h0 : Hp} (d : Den2 X G H x v) : Den2 X { G with H0 := h0 } H x v := by
  cases x <;> exact d
theorem AllD.un {h0 : Hp} : ∀ {xs : List Vl} {vs : List V}, AllD X G H xs vs → AllD X { G with H0 := h0 } H xs vs
  | _, _, .nil => .nil
  | _, _, .cons h t => .cons (Den2.un h) (AllD.un t)
theorem rtF_re {h0 : Hp} (r : rtF X { G with H0 := h0 } H x v) : DF X G h0 H x v := Den2.re r
theorem rtN_re {h0 : Hp} (r : rtN X { G with H0 := h0 } H x v) : DN X G h0 H x v := by
  rcases r with ⟨b, a, e1, e2, e3⟩ | ⟨b, d⟩
  · exact .inl ⟨b, a, e1, e2, e3⟩
  · exact .inr ⟨b, Den2.re d⟩
end
section
variable {X : Cx} {G : Gh} {W : WX} {x : Str} {e : Expr} {es : List Expr} {g : AF} {F : Fm} {k : Nat} {f : Addr} {fd : FuncData} {ps : List Str} {p pos : Pos} {RR : RL}
theorem call_of {R : Rl} {σ : St} {H : Hp} {Q : VK} (uR : Ups G (R X.km G)) (re : ∀ {h0 H x v}, RR X.km { G with H0 := h0 } H x v → R X.km G h0 H x v) (q : TR R X.km G W (fCall F g) σ H Q) : tCallS (spD RR X.km F) (WE W) (TA1 AllD X.km G W g) σ H Q := by
  refine TA1.of (TG1.bind (k := fun _ xs S1 => F xs S1) uR q.g fun ρ xs vs S S1 H1 eo eo1 e1 ad q1 => ⟨{ G with H0 := H1 }, xs, S1, rfl, eo1.src, ad.un, ?_⟩)
  unfold FinG at q1
  cases e : F xs S1 with
  | stuck => rw [e] at q1; exact q1
  | exn c a S' => rw [e] at q1; exact q1
  | ok z S' => rw [e] at q1; exact fun v H' x y r => q1 v H' x y (re r)
/-- f(e, ..) -/
theorem dCall (FO : FnOk X.prog X.w X.K X.mg X.base (L2.CX X.prog X.w) k f fd ps (spD rtF X.km F)) (hr : Room k X.A) (hm : X.mg x = some (.ref f)) (hk : PySem.W.keepIn X.K (.ref f) = true) (hb : Binds X.K fd ps []) (tk : Takes X W) (ha : DAs X G W (e :: es) g) (hg : Gl X x := by rfl) (hdb : (x == ("__debug__" : Str)) = false := by decide)
    (he : starEach (e :: es) X.env = (false, eval e X.env) :: starEach es X.env := by rfl) (hpl : (backTo pos (starEach es X.env)).any (·.1) = false := by rfl) : DE X G W (.Call (.Name x p) (e :: es) [] pos) (fCall F g) :=
  PE.weak (pe_callS FO hr hg hm hk hb (fun σ => passAt tk σ) ha hdb he hpl) fun σ H Q q => call_of ups_df rtF_re q
/-- .. that hands over a new list or dict -/
theorem dCallN (FO : FnOk X.prog X.w X.K X.mg X.base (L2.CX X.prog X.w) k f fd ps (spD rtN X.km F)) (hr : Room k X.A) (hm : X.mg x = some (.ref f)) (hk : PySem.W.keepIn X.K (.ref f) = true) (hb : Binds X.K fd ps []) (tk : Takes X W) (ha : DAs X G W (e :: es) g) (hg : Gl X x := by rfl) (hdb : (x == ("__debug__" : Str)) = false := by decide)
    (he : starEach (e :: es) X.env = (false, eval e X.env) :: starEach es X.env := by rfl) (hpl : (backTo pos (starEach es X.env)).any (·.1) = false := by rfl) : DO X G W (.Call (.Name x p) (e :: es) [] pos) (fCall F g) :=
  PE.weak (pe_callS FO hr hg hm hk hb (fun σ => passAt tk σ) ha hdb he hpl) fun σ H Q q => call_of ups_dn rtN_re q
end
/-! ### a def by its body -/
def env0 (n : Nat) (xs : List Vl) : En := xs.map .fz ++ List.replicate (n - xs.length) .no
/-- what a body hands over -/
def SOut.out : SOut → Out Vl
  | .rt x S => .ok x S
  | .exn c f _ S => .exn c f S
  | _ => .stuck
def SOut.outN : SOut → Out Vl
  | .nx _ S => .ok (.dat .none) S
  | o => o.out
def defF (n m : Nat) (b : SF) : Fm := fun xs S => if xs.length = m then (b (env0 n xs) S).out else .stuck
/-- .. one that may come to its end -/
def defN (n m : Nat) (b : SF) : Fm := fun xs S => if xs.length = m then (b (env0 n xs) S).outN else .stuck
theorem AllD.length {X : KM} {G : Gh} {H : Hp} : ∀ {xs : List Vl} {vs : List V}, AllD X G H xs vs → xs.length = vs.length
  | _, _, .nil => rfl
  | _, _, .cons _ t => by rw [List.length_cons, List.length_cons, AllD.length t]
theorem AllD.get {X : KM} {G : Gh} {H : Hp} : ∀ {xs : List Vl} {vs : List V}, AllD X G H xs vs → ∀ {i : Nat} {x : Vl}, xs[i]? = some x → ∃ v, vs[i]? = some v ∧ Den2 X G H x v
  | _, _, .cons h t, 0, x, e => by simp at e; subst e; exact ⟨_, rfl, h⟩
  | _, _, .cons h t, i + 1, x, e => AllD.get t (by simpa using e)
theorem eo_start {X : KM} {G : Gh} {H : Hp} {S : Src} {N : List Str} {xs : List Vl} {vs : List V} (h0 : G.H0 = H) (hs : SrcOk G H S) (ad : AllD X G H xs vs) : EO X G H (start N vs) (env0 N.length xs) S where
  same := h0 ▸ Ext.refl G H
  src0 := by rw [h0, hs.2.1, hs.2.2]; exact ⟨(fun z => nomatch z), (fun z => nomatch z)⟩
  src := hs
  len := by unfold start env0; simp [ad.length]
  slot := fun i s hi => by
    unfold env0 at hi
    by_cases lt : i < xs.length
    · rw [List.getElem?_append_left (by rwa [List.length_map]), List.getElem?_map, List.getElem?_eq_getElem lt] at hi
      cases hi
      obtain ⟨v, hv, dv⟩ := ad.get (List.getElem?_eq_getElem lt)
      refine ⟨v, ?_, dv⟩
      unfold start
      rw [List.getElem?_append_left (by rw [List.length_map]; exact lt_of_get hv), List.getElem?_map, hv]
      rfl
    · rw [List.getElem?_append_right (by rw [List.length_map]; omega)] at hi
      obtain rfl : s = .no := by
        have := List.getElem?_eq_some_iff.mp hi
        obtain ⟨_, e⟩ := this
        rw [List.getElem_replicate] at e
        exact e.symm
      trivial
  apart := fun i j d e a n hi hj _ _ => by
    have no : ∀ {i : Nat} {d : Vl}, (env0 N.length xs)[i]? ≠ some (.ow d) := fun {i d} z => by
      unfold env0 at z
      rcases List.mem_append.mp (List.mem_of_getElem? z) with m | m
      · obtain ⟨_, _, q⟩ := List.mem_map.mp m
        cases q
      · have := List.eq_of_mem_replicate m
        cases this
    exact no hi
section
variable {P : Program} {w : World} {K : PySem.W.Frag} {mg : Str → Option Value} {base : Heap} {x qual : Str} {st : Stmt} {f : Addr} {fd : FuncData} {N ps : List Str} {k : Nat} {RR : RL} {b : SF}
/-- a body's word: at every entry -/
def Body (RR : RL) (P : Program) (w : World) (K : PySem.W.Frag) (mg : Str → Option Value) (base : Heap) (N : List Str) (qual : Str) (st : Stmt) (f : Addr) (k : Nat) (b : SF) : Prop :=
  ∀ (cdv : Value) (A : Around) (outer : List Env) (s : Shared) (H : Hp) (E : XK), Room k (A.deeper (envOfC qual (defScope st) s.heap.objs.size f cdv)) → ∀ (G : Gh) (W : WX), Takes (cxOf (L2.CX P w) P w K mg base N qual (defScope st) f cdv A outer s H E) W →
    PassesOwn (model P w) (cxOf (L2.CX P w) P w K mg base N qual (defScope st) f cdv A outer s H E).A (cxOf (L2.CX P w) P w K mg base N qual (defScope st) f cdv A outer s H E).env (cxOf (L2.CX P w) P w K mg base N qual (defScope st) f cdv A outer s H E).xe →
    DS RR (cxOf (L2.CX P w) P w K mg base N qual (defScope st) f cdv A outer s H E) G W (defBody st) b
theorem dDef (Fu : Fun K x qual st f fd) (Sc : FnScope N ps (defScope st)) (hb : Body RR P w K mg base N qual st f k b) : FnOk P w K mg base (L2.CX P w) (k + 1) f fd ps (spD RR ⟨K, mg⟩ (defF N.length ps.length b)) := by
  have len : ∀ {vs : List V} {H : Hp} {Q : VK} {E : XK}, spD RR ⟨K, mg⟩ (defF N.length ps.length b) vs H Q E → vs.length = ps.length := fun {vs H Q E} h => by
    obtain ⟨G, xs, S, h0, hs, ad, q⟩ := h
    unfold defF at q
    split at q
    all_goals (try exact q.elim)
    all_goals (rw [← ad.length]; by_cases z : xs.length = ps.length)
    all_goals first | exact z | (rename_i e; rw [if_neg z] at e; cases e)
  refine Fu.okX Sc (fun vs H Q E h => len h) fun cdv A outer s H vs Q E hr h => ?_
  have hl := len h
  obtain ⟨G, xs, S, h0, hs, ad, q⟩ := h
  refine ⟨_, hb cdv A outer s H E hr G (fun cls d _ H => E cls d H) (takes_of rfl rfl rfl rfl) (passes_of rfl), _, S, eo_start (X := ⟨K, mg⟩) h0 hs ad, ?_⟩
  unfold defF at q
  rw [if_pos (ad.length.trans hl)] at q
  cases e : b (env0 N.length xs) S with
  | rt x S' => rw [e] at q; exact fun v H' a c d => q v H' (h0 ▸ a) c d
  | exn c a ρ S' => rw [e] at q; exact fun cls d σ' H' eo' _ ex => q cls d H' (h0 ▸ eo'.same) eo'.src ex
  | nx ρ S' => rw [e] at q; exact q.elim
  | bk ρ S' => rw [e] at q; exact q.elim
  | ct ρ S' => rw [e] at q; exact q.elim
  | stuck => rw [e] at q; exact q.elim
/-- a def that may come to its end: None -/
theorem dDefN (Fu : Fun K x qual st f fd) (Sc : FnScope N ps (defScope st)) (hb : Body rtF P w K mg base N qual st f k b) : FnOk P w K mg base (L2.CX P w) (k + 1) f fd ps (spD rtF ⟨K, mg⟩ (defN N.length ps.length b)) := by
  have len : ∀ {vs : List V} {H : Hp} {Q : VK} {E : XK}, spD rtF ⟨K, mg⟩ (defN N.length ps.length b) vs H Q E → vs.length = ps.length := fun {vs H Q E} ⟨G, xs, S, _, _, ad, q⟩ => by
    by_cases z : xs.length = ps.length
    · rw [← ad.length]; exact z
    · unfold defN at q
      rw [if_neg z] at q
      exact q.elim
  refine Fu.okX Sc (fun vs H Q E h => len h) fun cdv A outer s H vs Q E hr h => ?_
  have hl := len h
  obtain ⟨G, xs, S, h0, hs, ad, q⟩ := h
  refine ⟨_, hb cdv A outer s H E hr G (fun cls d _ H => E cls d H) (takes_of rfl rfl rfl rfl) (passes_of rfl), _, S, eo_start (X := ⟨K, mg⟩) h0 hs ad, ?_⟩
  unfold defN at q
  rw [if_pos (ad.length.trans hl)] at q
  cases e : b (env0 N.length xs) S with
  | rt x S' => rw [e] at q; exact fun v H' a c d => q v H' (h0 ▸ a) c d
  | exn c a ρ S' => rw [e] at q; exact fun cls d σ' H' eo' _ ex => q cls d H' (h0 ▸ eo'.same) eo'.src ex
  | nx ρ S' => rw [e] at q; exact fun σ' H' eo' _ => q .non H' (h0 ▸ eo'.same) eo'.src (by show Den _ _ _ _; unfold Den; rfl)
  | bk ρ S' => rw [e] at q; exact q.elim
  | ct ρ S' => rw [e] at q; exact q.elim
  | stuck => rw [e] at q; exact q.elim
end
end L2.HL

namespace L2.HL
open PySem PySem.Spec PyProof.Rows

/-! ### what is walked -/
def Serves (X : KM) (G : Gh) (J : It) (ds : List PyData) (H1 : Hp) : Prop := ∀ (i : Nat) (H : Hp) (S : Src), Pers H1 H → SrcOk G H S →
  (i = ds.length → J.stop i H) ∧ ∀ d, ds[i]? = some d → J.go i H ∧ ∀ x H', J.yld i H x H' → Same H H' ∧ Den X.K H' d x
abbrev LF := En → Src → Out (List PyData)
def TIR (X : KM) (G : Gh) (W : WX) (f : LF) : TI := TG1 (fun _ H' ds J => Serves X G J ds H') X G W f
/-- .. while all stands but the source -/
def ServesE (X : KM) (G : Gh) (J : It) (ds : List PyData) (H1 : Hp) : Prop := ∀ (i : Nat) (H : Hp) (S : Src), Ext G H1 H → SrcOk G H S →
  (i = ds.length → J.stop i H) ∧ ∀ d, ds[i]? = some d → J.go i H ∧ ∀ x H', J.yld i H x H' → Same H H' ∧ Den X.K H' d x
def TIE (X : KM) (G : Gh) (W : WX) (f : LF) : TI := TG1 (fun _ H' ds J => ServesE X G J ds H') X G W f
def DIe (X : Cx) (G : Gh) (W : WX) (tg iter : Expr) (f : LF) : Prop := PI X tg iter (TIE X.km G W f)
def DI (X : Cx) (G : Gh) (W : WX) (tg iter : Expr) (f : LF) : Prop := PI X tg iter (TIR X.km G W f)
theorem PI.weak {X : Cx} {tg e : Expr} {t t' : TI} (h : PI X tg e t) (w : ∀ σ H Q, t' σ H Q → t σ H Q) : PI X tg e t' := ⟨fun pins s σ H Q I q => h.run pins s σ H Q I (w _ _ _ q)⟩
theorem PG.weak {X : Cx} {tg : Expr} {t t' : TG} (h : PG X tg t) (w : ∀ v σ H Q, t' v σ H Q → t v σ H Q) : PG X tg t' := ⟨fun pins s σ H v u Q I r q => h.run pins s σ H v u Q I r (w _ _ _ _ q)⟩
theorem DI.e {X : Cx} {G : Gh} {W : WX} {tg iter : Expr} {f : LF} (h : DI X G W tg iter f) : DIe X G W tg iter f := PI.weak h fun σ H Q ⟨ρ, S, eo, q⟩ => by
  refine ⟨ρ, S, eo, ?_⟩
  unfold FinG at q ⊢
  cases e : f ρ S with
  | ok ds S' =>
    rw [e] at q
    exact fun J H' a b sv => q J H' a b fun i H2 S2 x y => sv i H2 S2 (Ext.pers b x) y
  | exn c a S' => rw [e] at q; exact q
  | stuck => rw [e] at q; exact q
/-! ### targets -/
inductive Tgt where
  | one (i : Nat)
  | many (is : List Nat)
def gNames : List Nat → TGs
  | [] => gNil
  | i :: is => gCons (gName i) (gNames is)
def gT (K : PySem.W.Frag) : Tgt → TG
  | .one i => gName i
  | .many is => gTup K is.length (gNames is)
def Tgt.slots : Tgt → List Nat
  | .one i => [i]
  | .many is => is
def setMany (ρ : En) : List Nat → List PyData → En
  | i :: is, d :: ds => setMany (ρ.set i (.fz (.dat d))) is ds
  | _, _ => ρ
def bindT (t : Tgt) (x : Vl) (ρ : En) : Option En := match t, x with
  | .one i, x => some (ρ.set i (.fz x))
  | .many is, .dat (.tuple ds) => if ds.length = is.length then some (setMany ρ is ds) else none
  | _, _ => none
def wipeE (ρ : En) : List Nat → En
  | [] => ρ
  | v :: vs => (wipeE ρ vs).set v .no
section
variable {X : KM} {G : Gh} {H : Hp} {σ : St} {ρ : En} {S : Src}
theorem EO.wipe (h : EO X G H σ ρ S) : ∀ vs : List Nat, EO X G H (wipe σ vs) (wipeE ρ vs) S
  | [] => h
  | v :: vs => by
    unfold L2.wipe wipeE
    exact (EO.wipe h vs).drop
theorem wipe_set {σ : St} {i : Nat} {w : Option V} : ∀ {vs : List Nat}, i ∈ vs → L2.wipe (σ.set i w) vs = L2.wipe σ vs
  | v :: vs, h => by
    unfold L2.wipe
    by_cases e : i = v
    · subst e
      by_cases m : i ∈ vs
      · rw [wipe_set m]
      · have : ∀ (us : List Nat) (σ : St), i ∉ us → L2.wipe (σ.set i w) us = (L2.wipe σ us).set i w := by
          intro us
          induction us with
          | nil => intro σ _; rfl
          | cons u us ih =>
            intro σ hm
            unfold L2.wipe
            rw [ih σ (fun z => hm (List.mem_cons_of_mem _ z)), List.set_comm]
            exact fun z => hm (by rw [z]; exact List.mem_cons_self)
        rw [this vs σ m, List.set_set]
    · rcases List.mem_cons.mp h with m | m
      · exact absurd m e
      · rw [wipe_set m]
theorem wipe_sub {σ : St} {vs : List Nat} : ∀ {us : List Nat}, (∀ i ∈ us, i ∈ vs) → L2.wipe (L2.wipe σ us) vs = L2.wipe σ vs
  | [], _ => rfl
  | u :: us, h => by
    show L2.wipe ((L2.wipe σ us).set u none) vs = _
    rw [wipe_set (h u List.mem_cons_self), wipe_sub fun i hi => h i (List.mem_cons_of_mem _ hi)]
theorem names_of : ∀ {is : List Nat} {ds : List PyData} {vs : List V} {σ : St} {ρ : En} {Q : St → Hp → Prop}, EO X G H σ ρ S → DenL X.K H ds vs → ds.length = is.length →
    (∀ σ', EO X G H σ' (setMany ρ is ds) S → (∀ us : List Nat, (∀ i ∈ is, i ∈ us) → L2.wipe σ' us = L2.wipe σ us) → Q σ' H) → gNames is vs σ H Q
  | [], [], vs, σ, ρ, Q, eo, hd, hl, h => by
    unfold DenL at hd
    exact ⟨hd, h σ eo fun _ _ => rfl⟩
  | i :: is, d :: ds, vs, σ, ρ, Q, eo, hd, hl, h => by
    unfold DenL at hd
    obtain ⟨v, r, e, h1, h2⟩ := hd
    refine ⟨v, r, e, names_of (eo.set (i := i) (x := .dat d) h1) h2 (by simpa using hl) fun σ' eo' hw => h σ' eo' fun us hu => ?_⟩
    rw [hw us (fun j hj => hu j (List.mem_cons_of_mem _ hj)), wipe_set (hu i List.mem_cons_self)]
theorem bind_of {t : Tgt} {x : Vl} {v : V} {ρ' : En} {Q : St → Hp → Prop} (eo : EO X G H σ ρ S) (hx : Den2 X G H x v) (hb : bindT t x ρ = some ρ') (h : ∀ σ', EO X G H σ' ρ' S → (∀ us : List Nat, (∀ i ∈ t.slots, i ∈ us) → L2.wipe σ' us = L2.wipe σ us) → Q σ' H) : gT X.K t v σ H Q := by
  unfold bindT at hb
  split at hb
  · cases hb
    exact h _ (eo.set hx) fun us hu => wipe_set (hu _ (by simp [Tgt.slots]))
  · split at hb
    · rename_i hl
      cases hb
      have hx : Den X.K H _ v := hx
      unfold Den at hx
      obtain ⟨a, xs, e, ht, hd⟩ := hx
      exact ⟨a, xs, e, ht.sq, by rw [← hd.length]; exact hl, names_of eo hd hl h⟩
    · cases hb
  · cases hb
end
def DG (X : Cx) (tg : Expr) (t : Tgt) : Prop := PG X tg (gT X.K t)
section
variable {X : Cx} {G : Gh} {W : WX} {RR : RL} {pos : Pos} {tg iter e : Expr} {lf : LF} {t : Tgt} {f : SF} {u : EF}
theorem dgOne {i : Nat} {x : Str} (hN : X.N.Nodup) (hi : X.N[i]? = some x := by rfl) (hx : Loc X.env.scope x := by first | exact Or.inl rfl | exact Or.inr rfl) (hf : X.fn x = true ∨ X.env.scope.names.lookup x = some .local := by first | exact .inl rfl | exact .inr rfl | assumption) : DG X (.Name x pos) (.one i) := pg_name hN hi hx hf
def DGs (X : Cx) (ts : List Expr) (is : List Nat) : Prop := PGs X ts (gNames is)
theorem dgsNil : DGs X [] [] := pgs_nil
theorem dgsCons {i : Nat} {x : Str} {es : List Expr} {is : List Nat} (hN : X.N.Nodup) (h : DGs X es is) (hi : X.N[i]? = some x := by rfl) (hx : Loc X.env.scope x := by first | exact Or.inl rfl | exact Or.inr rfl) (hf : X.fn x = true ∨ X.env.scope.names.lookup x = some .local := by first | exact .inl rfl | exact .inr rfl | assumption)
    (hs : (assignEach (.Name x pos :: es) X.env).map (·.2) = assign (.Name x pos) X.env :: (assignEach es X.env).map (·.2) := by rfl) : DGs X (.Name x pos :: es) (i :: is) := pgs_cons (pg_name hN hi hx hf) h hs
theorem dgMany {es : List Expr} {k : Nat} {is : List Nat} (hc : X.calm = true) (h : DGs X es is) (hn : (assignEach es X.env).length = is.length := by rfl) (hst : (assignEach es X.env).findIdx? (·.1) = none := by rfl) : DG X (.Tuple es k pos) (.many is) := pg_tup hc h hn hst
/-! ### a, b = e -/
def sUnp (t : Tgt) (u : EF) : SF := fun ρ S => SOut.letV (u ρ S) ρ fun x S1 => match bindT t x ρ with
  | some ρ' => .nx ρ' S1
  | none => .stuck
theorem dUnp (he : DE X G W e u) (hg : DG X tg t) (hs : swapsWithSole [tg] e pos.line X.env = pure false := by rfl) (hw : swappedStores [tg] e X.env = pure none := by rfl)
    (h1 : (assignEach [tg] X.env).map (·.2) = [assign tg X.env] := by rfl) : DS1 RR X G W (.Assign [tg] e pos) (sUnp t u) := PS.weak (ps_asg he hg hs hw h1) fun D σ H ⟨ρ, S, eo, q⟩ =>
  TR.of ⟨ρ, S, eo, SOut.use eo q fun x v S1 H1 _ eo1 e1 r1 q1 => by
    cases hb : bindT t x ρ with
    | none => rw [hb] at q1; exact q1.elim
    | some ρ' =>
      rw [hb] at q1
      exact bind_of eo1 r1 hb fun σ' eo' _ => FinS.next q1 eo'⟩
/-! ### for -/
def sForL (t : Tgt) (f : SF) : List PyData → SF
  | [] => .nx
  | d :: ds => fun ρ S => match bindT t (.dat d) ρ with
    | none => .stuck
    | some ρ1 => match f ρ1 S with
      | .nx ρ' S' => sForL t f ds ρ' S'
      | .ct ρ' S' => sForL t f ds ρ' S'
      | .bk ρ' S' => .nx ρ' S'
      | o => o
def sFor (lf : LF) (t : Tgt) (f : SF) : SF := fun ρ S => SOut.letV (lf ρ S) ρ fun ds S1 => sForL t f ds ρ S1
theorem dFor {body : List Stmt} (hp : PassesOwn (model X.prog X.w) X.A X.env X.xe) (hc : X.calm = true) (hi : DI X G W tg iter lf) (hg : DG X tg t) (hb : DS RR X G W body f)
    (hs : ∀ x, foldedSetIterable iter X.env x = pure x := by intro _; rfl) : DS1 RR X G W (.For tg iter body [] pos) (sFor lf t f) := PS.weak (ps_for hp hc hi hg hb hs) fun D σ H ⟨ρ, S, eo, q⟩ =>
  ⟨ρ, S, eo, SOut.use eo q fun ds J S1 H1 _ eo1 e1 sv q1 => by
    refine ⟨fun i m σ' H' => i ≤ ds.length ∧ m = ds.length - i ∧ Pers H1 H' ∧ TSR RR X.km G W (sForL t f (ds.drop i)) D σ' H', ⟨_, Nat.zero_le _, rfl, Pers.refl _, ρ, S1, eo1, q1⟩, fun i m σ' H' ⟨hil, hm, p, ρ2, S2, eo2, q2⟩ => ?_⟩
    obtain ⟨s1, s2⟩ := sv i H' S2 p eo2.src
    cases hd : ds[i]? with
    | none =>
      have hl : ds.length ≤ i := List.getElem?_eq_none_iff.mp hd
      rw [List.drop_eq_nil_of_le hl] at q2
      exact .inl ⟨s1 (Nat.le_antisymm hil hl), FinS.next q2 eo2⟩
    | some d =>
      obtain ⟨g1, g2⟩ := s2 d hd
      have hlt : i < ds.length := lt_of_get hd
      have hdr : ds.drop i = d :: ds.drop (i + 1) := by
        rw [List.drop_eq_getElem_cons hlt]
        have := (List.getElem?_eq_some_iff.mp hd).2
        rw [this]
      rw [hdr] at q2
      unfold sForL at q2
      refine .inr ⟨g1, fun σ3 H3 => Pers H1 H3 ∧ TSR RR X.km G W (sForL t f (ds.drop (i + 1))) D σ3 H3, fun σ3 H3 ⟨p3, h3⟩ => ⟨ds.length - (i + 1), by omega, hlt, rfl, p3, h3⟩, fun x H3 hy => ?_⟩
      obtain ⟨sm, dx⟩ := g2 x H3 hy
      have p3 : Pers H1 H3 := p.trans (Same.pers sm)
      cases hbd : bindT t (.dat d) ρ2 with
      | none => rw [hbd] at q2; exact q2.elim
      | some ρ3 =>
        rw [hbd] at q2
        refine bind_of (eo2.ext (Ext.of_same sm) (ext_src eo2.src sm)) (x := .dat d) dx hbd fun σ4 eo4 _ => ⟨ρ3, S2, eo4, ?_⟩
        have q3 := FinS.up (Same.pers sm) q2
        dsimp only at q3
        cases hf : f ρ3 S2 with
        | nx ρ' S' => rw [hf] at q3; exact fun σ5 H5 a b => ⟨p3.trans b, ρ', S', a, FinS.up b q3⟩
        | ct ρ' S' => rw [hf] at q3; exact fun σ5 H5 a b => ⟨p3.trans b, ρ', S', a, FinS.up b q3⟩
        | bk ρ' S' => rw [hf] at q3; exact q3
        | rt x S' => rw [hf] at q3; exact q3
        | exn c a ρ' S' => rw [hf] at q3; exact q3
        | stuck => rw [hf] at q3; exact q3⟩
/-! ### [e for t in it if c] -/
abbrev W0 : WX := fun _ _ _ _ => False
def lcL (t : Tgt) (vs : List Nat) (c : BF) (u : EF) : List PyData → List PyData → En → Src → Out (List PyData)
  | [], acc, _, S => .ok acc S
  | d :: ds, acc, ρ, S => match bindT t (.dat d) (wipeE ρ vs) with
    | none => .stuck
    | some ρ1 => match c ρ1 S with
      | .ok false S1 => lcL t vs c u ds acc ρ S1
      | .ok true S1 => match u ρ1 S1 with
        | .ok (.dat y) S2 => if acc.length < 16000000 then lcL t vs c u ds (acc ++ [y]) ρ S2 else .stuck
        | _ => .stuck
      | _ => .stuck
def fLc (lf : LF) (t : Tgt) (vs : List Nat) (c : BF) (u : EF) : EF := fun ρ S => (lf ρ S).bind fun ds S1 => (lcL t vs c u ds [] ρ S1).bind fun ys S2 => .ok (.dat (.list ys)) S2
def DTs (X : Cx) (G : Gh) (W : WX) (ifs : List Expr) (c : BF) : Prop := PTs X ifs (TT1 X.km G W c)
theorem PTs.weak {X : Cx} {e : List Expr} {t t' : TT} (h : PTs X e t) (w : ∀ σ H Q, t' σ H Q → t σ H Q) : PTs X e t' := ⟨fun pins s σ H Q I q => h.run pins s σ H Q I (w _ _ _ q)⟩
theorem dtsNil : DTs X G W [] (fun _ S => .ok true S) := PTs.weak pts_nil fun σ H Q ⟨ρ, S, eo, q⟩ => q H (Ext.refl G H) eo.src
theorem dtsOne {c : Expr} {b : BF} (h : DT X G W c b) : DTs X G W [c] b := pts_one h
theorem lc_of {vs : List Nat} {c : BF} (ht : ∀ i ∈ t.slots, i ∈ vs) {σ : St} {H : Hp} {Q : VK} (q : TR DN X.km G W (fLc lf t vs c u) σ H Q) :
    tLc (TIE X.km G W lf) (gT X.K t) (TT1 X.km G W0 c) (TR DF X.km G W0 u) vs σ H Q := by
  refine TG1.bind ups_dn q.g fun ρ ds J S S1 H1 eo eo1 e1 sv q1 => ?_
  generalize hT : ((lcL t vs c u ds [] ρ S1).bind fun ys S2 => Out.ok (Vl.dat (.list ys)) S2) = T at q1
  intro D hD
  have sm0 : Same H1 (upd H1 D (.lst [])) := same_new hD
  refine ⟨fun i m H' => i ≤ ds.length ∧ m = ds.length - i ∧ Ext G H1 H' ∧ Pers H1 H' ∧ ∃ S2 acc xs, SrcOk G H' S2 ∧ H' D = some (.lst xs) ∧ DenL X.K H' acc xs ∧ ((lcL t vs c u (ds.drop i) acc ρ S2).bind fun ys S2 => Out.ok (Vl.dat (.list ys)) S2) = T,
    ⟨_, Nat.zero_le _, rfl, Ext.of_same sm0, Same.pers sm0, S1, [], [], ext_src eo1.src sm0, upd_same, DenL.nil, hT⟩, ?_⟩
  rintro i m H' ⟨hil, hm, ex, p, S2, acc, xs, hs, hDx, hd, hq⟩
  have n0 : D ≠ G.a0 := fun z => by rw [z, eo1.src.2.1] at hD; cases hD
  have nc : D ≠ G.c0 := fun z => by rw [z, eo1.src.2.2] at hD; cases hD
  obtain ⟨s1, s2⟩ := sv i H' S2 ex hs
  cases hdi : ds[i]? with
  | none =>
    have hl : ds.length ≤ i := List.getElem?_eq_none_iff.mp hdi
    rw [List.drop_eq_nil_of_le hl] at hq
    unfold lcL at hq
    simp only [Out.bind_ok] at hq
    rw [← hq] at q1
    exact .inl ⟨s1 (Nat.le_antisymm hil hl), q1 _ H' ex hs (.inl ⟨rfl, D, rfl, hD, xs, hDx, hd⟩)⟩
  | some d =>
    obtain ⟨g1, g2⟩ := s2 d hdi
    have hlt : i < ds.length := lt_of_get hdi
    have hdr : ds.drop i = d :: ds.drop (i + 1) := by
      rw [List.drop_eq_getElem_cons hlt]
      have := (List.getElem?_eq_some_iff.mp hdi).2
      rw [this]
    rw [hdr] at hq
    unfold lcL at hq
    refine .inr ⟨g1, fun H3 => Ext G H1 H3 ∧ Pers H1 H3 ∧ ∃ S2 acc xs, SrcOk G H3 S2 ∧ H3 D = some (.lst xs) ∧ DenL X.K H3 acc xs ∧ ((lcL t vs c u (ds.drop (i + 1)) acc ρ S2).bind fun ys S2 => Out.ok (Vl.dat (.list ys)) S2) = T,
      fun H3 h3 => ⟨ds.length - (i + 1), by omega, hlt, rfl, h3⟩, fun x H3 hy => ?_⟩
    obtain ⟨sm, dx⟩ := g2 x H3 hy
    have hs3 := ext_src hs sm
    have ex3 : Ext G H1 H3 := ex.trans (Ext.of_same sm)
    have eo3 := (eo1.ext ex3 hs3).wipe vs
    have noS : ∀ {α : Type} (o : Out α), (Out.stuck.bind fun ys S2 => Out.ok (Vl.dat (.list ys)) S2) = T → False := fun _ z => by
      rw [← z] at q1
      exact q1
    cases hbd : bindT t (.dat d) (wipeE ρ vs) with
    | none => rw [hbd] at hq; exact (noS (Out.stuck : Out Nat) hq).elim
    | some ρ3 =>
      rw [hbd] at hq
      refine bind_of eo3 (x := .dat d) dx hbd fun σ4 eo4 hw => ⟨(hw vs ht).trans (wipe_sub fun _ z => z), TT1.of ⟨ρ3, S2, eo4, ?_⟩⟩
      dsimp only at hq
      cases hc : c ρ3 S2 with
      | stuck => rw [hc] at hq; exact (noS (Out.stuck : Out Nat) hq).elim
      | exn c a S' => rw [hc] at hq; exact (noS (Out.stuck : Out Nat) hq).elim
      | ok b S3 =>
        intro b' H4 e4 s4 eb
        subst eb
        rw [hc] at hq
        have ex4 := ex3.trans e4
        have p4 : Pers H1 H4 := Ext.pers eo1.src ex4
        have D3 : H3 D = some (.lst xs) := sm _ _ hDx
        have D4 : H4 D = some (.lst xs) := e4 _ _ D3 n0 nc
        have d4 : DenL X.K H4 acc xs := DenL.pers (Ext.pers hs3 e4) _ _ (DenL.pers (Same.pers sm) _ _ hd)
        cases b' with
        | false => exact ⟨ex4, p4, S3, acc, xs, s4, D4, d4, hq⟩
        | true =>
          refine TR.of ⟨ρ3, S3, eo4.ext e4 s4, ?_⟩
          dsimp only at hq
          cases hu : u ρ3 S3 with
          | stuck => rw [hu] at hq; exact (noS (Out.stuck : Out Nat) hq).elim
          | exn c a S' => rw [hu] at hq; exact (noS (Out.stuck : Out Nat) hq).elim
          | ok y S4 =>
            rw [hu] at hq
            intro y' H5 e5 s5 ry
            cases y with
            | dat y =>
              dsimp only at hq
              split at hq
              · rename_i hlen
                have ex5 := ex4.trans e5
                have D5 : H5 D = some (.lst xs) := e5 _ _ D4 n0 nc
                have d5 : DenL X.K H5 acc xs := DenL.pers (Ext.pers s4 e5) _ _ d4
                have pu : Pers H5 (upd H5 D (.lst (xs ++ [y']))) := by
                  refine ⟨fun b zs z => ?_, fun b o' w z => ?_⟩
                  · rw [upd_ne (fun y => by rw [y, D5] at z; cases z)]; exact z
                  · rw [upd_ne (fun y => by rw [y, D5] at z; cases z)]; exact z
                refine ⟨xs, D5, by rw [← sizeN, ← d5.length]; omega, ?_⟩
                refine ⟨fun b o z m1 m2 => ?_, (Ext.pers eo1.src ex5).trans pu, S4, acc ++ [y], xs ++ [y'], ⟨s5.1, by rw [upd_ne (Ne.symm n0)]; exact s5.2.1, by rw [upd_ne (Ne.symm nc)]; exact s5.2.2⟩, upd_same, (DenL.pers pu _ _ d5).append (DenL.one (Den.pers pu _ _ ry)), hq⟩
                rw [upd_ne (fun w => by rw [w, hD] at z; cases z)]
                exact ex5 b o z m1 m2
              · exact (noS (Out.stuck : Out Nat) hq).elim
            | dic y => exact (noS (Out.stuck : Out Nat) hq).elim
            | src => exact (noS (Out.stuck : Out Nat) hq).elim
            | ins a b => exact (noS (Out.stuck : Out Nat) hq).elim
            | exc a b => exact (noS (Out.stuck : Out Nat) hq).elim
/-- [e for t in it if c]: the parts hold in every block -/
def Blk (X : Cx) (scope : Scope) (P : Cx → Prop) : Prop := ∀ (s : Shared) (H : Hp) (C : Addr) (cl : List (Str × Addr)) (fp : List Addr), P (X.blk s H scope (compEnvC scope cl C X.env) fp)
theorem dLc {elt : Expr} {ifs : List Expr} {scope : Scope} {own : List (Str × Nat)} {c : BF} (hc : X.calm = true) (hN : X.N.Nodup) (ok : BlkOk X.N X.env.scope scope own) (hi : DIe X G W tg iter lf)
    (hg : Blk X scope fun Y => DG Y tg t) (ht : Blk X scope fun Y => DTs Y G W0 ifs c) (he : Blk X scope fun Y => DE Y G W0 elt u) (hv : ∀ i ∈ t.slots, i ∈ own.map (·.2)) (hs : ∀ x, foldedSetIterable iter X.env x = pure x := by intro _; rfl) :
    DO X G W (.ListComp elt [⟨tg, iter, ifs, 0⟩] scope pos) (fLc lf t (own.map (·.2)) c u) := PE.weak (pe_lc (g := gT X.K t) (tt := TT1 X.km G W0 c) (te := TR DF X.km G W0 u) hc hN hi ok hg ht he hs) fun σ H Q q => lc_of hv q
theorem dSetLc {i : Nat} {y : Str} {py spos : Pos} {elt : Expr} {ifs : List Expr} {scope : Scope} {own : List (Str × Nat)} {c : BF} (hc : X.calm = true) (hN : X.N.Nodup) (ok : BlkOk X.N X.env.scope scope own) (hi : DIe X G W tg iter lf)
    (hg : Blk X scope fun Y => DG Y tg t) (ht : Blk X scope fun Y => DTs Y G W0 ifs c) (he : Blk X scope fun Y => DE Y G W0 elt u) (hv : ∀ i ∈ t.slots, i ∈ own.map (·.2)) (hs : ∀ x, foldedSetIterable iter X.env x = pure x := by intro _; rfl)
    (hy : X.N[i]? = some y := by rfl) (hyl : X.env.scope.names.lookup y = some .local := by rfl) (hsw : swapsWith (.ListComp elt [⟨tg, iter, ifs, 0⟩] scope pos) (some (.Name y py)) spos.line X.env = pure true := by rfl) :
    DS1 RR X G W (.Assign [.Name y py] (.ListComp elt [⟨tg, iter, ifs, 0⟩] scope pos) spos) (sOwn i (fLc lf t (own.map (·.2)) c u)) := PS.weak (ps_setLc (g := gT X.K t) (tt := TT1 X.km G W0 c) (te := TR DF X.km G W0 u) hc hN hy hyl hsw hi ok hg ht he hs) fun D σ H q => by
  obtain ⟨ρ, S, eo, q⟩ := q
  show tLc _ _ _ _ _ _ _ _
  refine lc_of hv (TR.of ⟨ρ, S, eo, SOut.use eo q fun x v S1 H1 _ eo1 e1 r1 q1 => ?_⟩)
  split at q1
  · rename_i hb
    rcases r1 with ⟨_, a, ev, hn, od⟩ | ⟨hb', _⟩
    · subst ev
      exact FinS.next q1 (eo1.setOw (eo.none0 hn) od fun j d hj e => eo.fresh hn j d hj e)
    · rw [hb] at hb'; cases hb'
  · exact q1.elim
end
end L2.HL

namespace L2.HL
open PySem PySem.Spec PyProof.Rows

/-! ### any walk of the library, over data -/
def JW (K : PySem.W.Frag) (ds : List PyData) (pre : Hp → Prop) : It :=
  ⟨fun i H => i < ds.length ∧ pre H, fun i H x H' => Same H H' ∧ ∃ d, ds[i]? = some d ∧ Den K H' d x, fun i H => i = ds.length ∧ pre H⟩
theorem JW.serves {X : KM} {G : Gh} {ds : List PyData} {pre : Hp → Prop} {H1 : Hp} (hp : ∀ H, Pers H1 H → pre H) : Serves X G (JW X.K ds pre) ds H1 := fun i H S p hs =>
  ⟨fun e => ⟨e, hp H p⟩, fun d hd => ⟨⟨lt_of_get hd, hp H p⟩, fun x H' ⟨sm, d', e, dn⟩ => by rw [hd] at e; cases e; exact ⟨sm, dn⟩⟩⟩
theorem JW.servesE {X : KM} {G : Gh} {ds : List PyData} {pre : Hp → Prop} {H1 : Hp} (hp : ∀ H, Ext G H1 H → pre H) : ServesE X G (JW X.K ds pre) ds H1 := fun i H S p hs =>
  ⟨fun e => ⟨e, hp H p⟩, fun d hd => ⟨⟨lt_of_get hd, hp H p⟩, fun x H' ⟨sm, d', e, dn⟩ => by rw [hd] at e; cases e; exact ⟨sm, dn⟩⟩⟩
section
variable {P : Program} {w : World} {K : PySem.W.Frag} {tg : Expr} {C : Type} {I0 : Addr} {wr : List Addr} {fp : C → List Addr} {It : Nat → Heap → Prop} {Ct : C → Heap → Prop} {ds : List PyData} {pre : Hp → Prop}
/-- plain items -/
theorem turn_W {Pv : C → Nat → Value → Prop} {cn : String} (hI : I0 ∈ wr)
    (W : ∀ (A : Around) (c : C), A.handled = none → Walks P w A I0 (fp c) wr ds.length (Pv c) (fun i h => It i h ∧ Ct c h))
    (obj : ∀ i h, It i h → ∀ b ∈ wr, ∃ o, h.get? b = some o ∧ ∀ v, o.data ≠ .cell v) (keep : ∀ i h h', It i h → (∀ b ∈ wr, ∀ o, h.get? b = some o → h'.get? b = some o) → It i h')
    (hg : ∀ i h, It i h → ∃ o vs, h.get? I0 = some o ∧ o.cls = .type cn ∧ o.data = .fields vs) (hn : ["enumerate", "zip", "dict_itemiterator", "dict_reverseitemiterator", "odict_iterator", "itertools.zip_longest", "itertools.pairwise"].contains cn = false)
    (self : ∀ (A : Around) (i : Nat) (s : Shared) (Q : Value → Shared → Prop) (E : Value → Shared → Prop), It i s.heap → Q (.ref I0) s → wpAny (model P w) A (pyIter (.ref I0)) Q E s)
    (hc : ∀ (X : Cx), X.prog = P → X.w = w → X.K = K → ∀ (pins : List (Addr × Obj)) (σ : St) (H : Hp) (s : Shared), Inv X pins σ H s → pre H → ∃ c, Ct c s.heap ∧ ∀ i v, Pv c i v → ∃ d x, ds[i]? = some d ∧ RelV x v ∧ Den K H d x) :
    Turn P w K tg (JW K ds pre) wr I0 It where
  mem := hI
  obj := obj
  keep := keep
  self := self
  item := by
    intro X hP hw hK hcal i pins s σ H E I hf st hgo
    subst hP hw hK
    obtain ⟨hlt, hpre⟩ := hgo
    obtain ⟨c, hct, hv⟩ := hc X rfl rfl rfl pins σ H s I hpre
    refine (W X.A c (I.ok.hd hcal)).item i s _ E hlt ⟨st, hct⟩ fun v h' tk pv st' hk => ⟨v, rfl, ?_⟩
    obtain ⟨d, x, hd, rx, dx⟩ := hv i v pv
    obtain ⟨o, vs, ho, hcl, hdt⟩ := hg _ _ st'.1
    refine go_of (s := { s with heap := h', toks := tk }) ho hcl hdt hn ?_
    exact ⟨x, H, I.turnedL (t' := tk) (ch := wr) hk hf, rx, ⟨Same.refl H, d, hd, dx⟩, st'.1, fun b hb => (hf b hb).1⟩
  done := by
    intro X hP hw hK hcal i pins s σ H E I hf st hgo
    subst hP hw hK
    obtain ⟨hlt, hpre⟩ := hgo
    obtain ⟨c, hct, hv⟩ := hc X rfl rfl rfl pins σ H s I hpre
    subst hlt
    exact (W X.A c (I.ok.hd hcal)).done s _ E ⟨st, hct⟩ fun h' tk hk => ⟨rfl, I.turnedL (t' := tk) (ch := wr) hk hf⟩
/-- tuples -/
theorem turn_T {elts : List Expr} {kk : Nat} {tpos : Pos} {Pt : C → Nat → Array Value → Prop} {Mid : C → Nat → Addr → Heap → Prop} (hI : I0 ∈ wr)
    (W : ∀ (A : Around) (c : C), A.handled = none → WalksT P w A I0 (fp c) wr ds.length (Pt c) (fun i h => It i h ∧ Ct c h) (Mid c))
    (obj : ∀ i h, It i h → ∀ b ∈ wr, ∃ o, h.get? b = some o ∧ ∀ v, o.data ≠ .cell v) (keep : ∀ i h h', It i h → (∀ b ∈ wr, ∀ o, h.get? b = some o → h'.get? b = some o) → It i h')
    (self : ∀ (A : Around) (i : Nat) (s : Shared) (Q : Value → Shared → Prop) (E : Value → Shared → Prop), It i s.heap → Q (.ref I0) s → wpAny (model P w) A (pyIter (.ref I0)) Q E s)
    (hc : ∀ (X : Cx), X.prog = P → X.w = w → X.K = K → ∀ (pins : List (Addr × Obj)) (σ : St) (H : Hp) (s : Shared), Inv X pins σ H s → pre H → ∃ c, Ct c s.heap ∧ ∀ i vals, Pt c i vals → ∃ dd ys, ds[i]? = some (.tuple dd) ∧ Vals ys vals.toList ∧ DenL K H dd ys ∧ ys.length ≤ sizeLine) :
    Turn P w K (.Tuple elts kk tpos) (JW K ds pre) wr I0 It where
  mem := hI
  obj := obj
  keep := keep
  self := self
  item := by
    intro X hP hw hK hcal i pins s σ H E I hf st hgo
    subst hP hw hK
    obtain ⟨hlt, hpre⟩ := hgo
    obtain ⟨c, hct, hv⟩ := hc X rfl rfl rfl pins σ H s I hpre
    refine (W X.A c (I.ok.hd hcal)).item i s _ E hlt ⟨st, hct⟩ fun T vals h' tk pv hT hIT mid hk => ⟨.ref T, rfl, ?_⟩
    obtain ⟨dd, ys, hd, rv, dy, hz⟩ := hv i vals pv
    have nT := (W X.A c (I.ok.hd hcal)).apart i T h' mid
    refine (W X.A c (I.ok.hd hcal)).go elts kk tpos i T { s with heap := h', toks := tk } _ E mid fun h'' st'' hk2 => ?_
    have kk' : ∀ b o, b ∉ wr → s.heap.get? b = some o → h''.get? b = some o := fun b o hb e => hk2 b o hb (hk b o hb e)
    have hTn : H T = none := I.hok.fresh hT
    have new : ObjOk X.prog X.w (upd H T (.tup ys)) h'' T (.tup ys) := by
      obtain ⟨o, h1, h2, n, h3⟩ := hIT
      exact ⟨hz, vals.toList, rv, ⟨o, hk2 T o nT h1, h2, n, by simpa using h3⟩⟩
    refine ⟨.ref T, _, I.turnedNew (t' := tk) (ch := wr) kk' hf hT new, rfl, ⟨same_new hTn, _, hd, ?_⟩, st''.1, fun b hb => ?_⟩
    · unfold Den
      exact ⟨T, ys, rfl, .inl upd_same, DenL.pers (Same.pers (same_new hTn)) _ _ dy⟩
    · rw [upd_ne (fun z => nT (by rw [← z]; exact hb))]
      exact (hf b hb).1
  done := by
    intro X hP hw hK hcal i pins s σ H E I hf st hgo
    subst hP hw hK
    obtain ⟨hlt, hpre⟩ := hgo
    obtain ⟨c, hct, hv⟩ := hc X rfl rfl rfl pins σ H s I hpre
    subst hlt
    exact (W X.A c (I.ok.hd hcal)).done s _ E ⟨st, hct⟩ fun h' tk hk => ⟨rfl, I.turnedL (t' := tk) (ch := wr) hk hf⟩
end
section
variable {X : Cx} {tg e : Expr} {te : TE}
/-- by the value that is walked -/
theorem pi_val {k : V → Hp → (It → Hp → Prop) → Prop} (he : PE X e te) (hk : ∀ (pins : List (Addr × Obj)) (σ : St) (H : Hp) (s : Shared) (x : V) (v : Value) (R : It → Hp → Prop), Inv X pins σ H s → RelV x v → k x H R → wpAny (model X.prog X.w) X.A (pyIter v) (PIE X pins σ tg R) X.xe s) :
    PI X tg e (fun σ H R => te σ H fun x H1 => k x H1 R) := ⟨fun pins s σ H R I h => thn (he.run pins s σ H _ I h) fun v s1 ⟨x, H1, I1, r1, q1⟩ => hk pins σ H1 s1 x v R I1 r1 q1⟩
variable {pins : List (Addr × Obj)} {σ : St} {H : Hp} {s : Shared} {R : It → Hp → Prop} {a : Addr} {G : Gh}
theorem it_list {xs : List V} (I : Inv X pins σ H s) (hq : SqL X.K H a xs) (q : R (Itl X.K a) H) : wpAny (model X.prog X.w) X.A (pyIter (.ref a)) (PIE X pins σ tg R) X.xe s := by
  obtain ⟨its, rv, p, hz⟩ := I.list hq
  exact wpAny_pyIter_list p.isList (pi_one (tk := s.toks) I _ (turn_list a _) ⟨_, Heap.get?_push_size _ rfl, rfl, rfl⟩ q)
theorem it_tup {xs : List V} (I : Inv X pins σ H s) (hq : SqT X.K H a xs) (q : R (Itt X.K a) H) : wpAny (model X.prog X.w) X.A (pyIter (.ref a)) (PIE X pins σ tg R) X.xe s := by
  obtain ⟨its, rv, p, hz⟩ := I.tuple hq
  exact wpAny_pyIter_tuple (show s.heap.IsTuple a its.toArray from p) (pi_one (tk := s.toks) I _ (turn_tuple a _) ⟨_, Heap.get?_push_size _ rfl, rfl, rfl⟩ q)
theorem it_str {z : Str} {t : Tok} (I : Inv X pins σ H s) (q : R (Its z) H) : wpAny (model X.prog X.w) X.A (pyIter (.str z t)) (PIE X pins σ tg R) X.xe s := by
  cases ha : z.cps.all (· < 128)
  · exact wpAny_pyIter_wide ha (pi_one (tk := s.toks) I _ (turn_str _ z t "str_iterator" (.inr rfl)) ⟨_, Heap.get?_push_size _ rfl, rfl, rfl⟩ q)
  · exact wpAny_pyIter_ascii ha (pi_one (tk := s.toks) I _ (turn_str _ z t "str_ascii_iterator" (.inl rfl)) ⟨_, Heap.get?_push_size _ rfl, rfl, rfl⟩ q)
def signs (z : Str) : List PyData := z.cps.toList.map fun c => .str ⟨#[c]⟩
/-- what is walked -/
def itV : Vl → Option (List PyData)
  | .dat (.list ds) => some ds
  | .dat (.tuple ds) => some ds
  | .dat (.str z) => some (signs z)
  | .dic kvs => some (kvs.map (·.1))
  | _ => none
/-- .. also an own one -/
def itW : Vl → Option (List PyData)
  | .dat (.list ds) => some ds
  | .dat (.tuple ds) => some ds
  | .dat (.str z) => some (signs z)
  | _ => none
theorem serves_l {X : KM} {ds : List PyData} {xs : List V} {H1 : Hp} (hf : ∀ H, Pers H1 H → SqL X.K H a xs) (hd : DenL X.K H1 ds xs) : Serves X G (Itl X.K a) ds H1 := fun i H S p hs =>
  ⟨fun e => ⟨xs, hf H p, by rw [← hd.length]; omega⟩, fun d e => by
    obtain ⟨v, e1, e2⟩ := hd.get e
    refine ⟨⟨xs, v, hf H p, e1⟩, fun x H' ⟨h1, h2⟩ => ?_⟩
    subst h1
    have := h2 xs (hf H' p)
    rw [e1] at this
    cases this
    exact ⟨Same.refl _, Den.pers p _ _ e2⟩⟩
theorem serves_le {X : KM} {ds : List PyData} {xs : List V} {H1 : Hp} {S1 : Src} (h1 : SrcOk G H1 S1) (hf : ∀ H, Ext G H1 H → SqL X.K H a xs) (hd : DenL X.K H1 ds xs) : ServesE X G (Itl X.K a) ds H1 := fun i H S p hs =>
  ⟨fun e => ⟨xs, hf H p, by rw [← hd.length]; omega⟩, fun d e => by
    obtain ⟨v, e1, e2⟩ := hd.get e
    refine ⟨⟨xs, v, hf H p, e1⟩, fun x H' ⟨h3, h2⟩ => ?_⟩
    subst h3
    have := h2 xs (hf H' p)
    rw [e1] at this
    cases this
    exact ⟨Same.refl _, Den.pers (Ext.pers h1 p) _ _ e2⟩⟩
theorem serves_t {X : KM} {ds : List PyData} {xs : List V} {H1 : Hp} (hf : TpT X.K H1 a xs) (hd : DenL X.K H1 ds xs) : Serves X G (Itt X.K a) ds H1 := fun i H S p hs =>
  ⟨fun e => ⟨xs, (hf.pers p).sq, by rw [← hd.length]; omega⟩, fun d e => by
    obtain ⟨v, e1, e2⟩ := hd.get e
    refine ⟨⟨xs, v, (hf.pers p).sq, e1⟩, fun x H' ⟨h3, h2⟩ => ?_⟩
    subst h3
    have := h2 xs (hf.pers p).sq
    rw [e1] at this
    cases this
    exact ⟨Same.refl _, Den.pers p _ _ e2⟩⟩
theorem serves_s {X : KM} {z : Str} {H1 : Hp} : Serves X G (Its z) (signs z) H1 := fun i H S p hs =>
  ⟨fun e => by
    unfold signs at e
    rw [List.length_map, Array.length_toList] at e
    exact Nat.le_of_eq e.symm, fun d e => by
    unfold signs at e
    rw [List.getElem?_map] at e
    obtain ⟨c, e1, e2⟩ := Option.map_eq_some_iff.mp e
    rw [Array.getElem?_toList] at e1
    refine ⟨(Array.getElem?_eq_some_iff.mp e1).1, fun x H' ⟨h3, c', h4, h5⟩ => ?_⟩
    subst h3
    rw [e1] at h4
    cases h4
    subst e2 h5
    exact ⟨Same.refl _, by unfold Den; rfl⟩⟩
theorem serves_k {X : KM} {kvs : List (PyData × PyData)} {ks : List (Key × V)} {o : Obj} {H1 : Hp} (hf : H1 a = some (.frz o (.dK ks))) (hd : DenK X.K H1 kvs ks) : Serves X G (Itk a o ks) (kvs.map (·.1)) H1 := by
  have gk : ∀ {kvs : List (PyData × PyData)} {ks : List (Key × V)}, DenK X.K H1 kvs ks → ∀ (i : Nat) (d : PyData), (kvs.map (·.1))[i]? = some d → ∃ k v, ks[i]? = some (k, v) ∧ d = keyD k := by
    intro kvs
    induction kvs with
    | nil => intro ks _ i d e; simp at e
    | cons p r ih =>
      intro ks h i d e
      obtain ⟨k0, d0⟩ := p
      unfold DenK at h
      obtain ⟨k', v, s', e1, e2, _, h2⟩ := h
      subst e1
      cases i with
      | zero =>
        simp at e
        subst e
        exact ⟨k', v, rfl, e2⟩
      | succ i => exact ih h2 i d (by simpa using e)
  exact fun i H S p hs =>
    ⟨fun e => ⟨p.2 _ _ _ hf, by rw [← hd.length]; rw [List.length_map] at e; omega⟩, fun d e => by
      obtain ⟨k, v, e1, e2⟩ := gk hd i d e
      refine ⟨⟨p.2 _ _ _ hf, lt_of_get e1⟩, fun x H' ⟨h3, k', v', h4, h5⟩ => ?_⟩
      subst h3
      rw [e1] at h4
      cases h4
      subst e2 h5
      exact ⟨Same.refl _, by cases k <;> (show Den _ _ _ _; unfold keyD Den; rfl)⟩⟩
theorem den_keys {K : PySem.W.Frag} {H : Hp} : ∀ ks : List Key, DenL K H (ks.map keyD) (ks.map kV)
  | [] => DenL.nil
  | k :: ks => DenL.cons (by cases k <;> (unfold keyD Den; rfl)) (den_keys ks)
theorem serves_kt {X : KM} {kvs : List (PyData × PyData)} {ks : List (List Key × V)} {o : Obj} {H1 : Hp} (hf : H1 a = some (.frz o (.dT ks))) (hd : DenT X.K H1 kvs ks) : Serves X G (Itkt a o ks) (kvs.map (·.1)) H1 := by
  have gk : ∀ {kvs : List (PyData × PyData)} {ks : List (List Key × V)}, DenT X.K H1 kvs ks → ∀ (i : Nat) (d : PyData), (kvs.map (·.1))[i]? = some d → ∃ k v, ks[i]? = some (k, v) ∧ d = .tuple (k.map keyD) := by
    intro kvs
    induction kvs with
    | nil => intro ks _ i d e; simp at e
    | cons p r ih =>
      intro ks h i d e
      obtain ⟨k0, d0⟩ := p
      unfold DenT at h
      obtain ⟨k', v, s', e1, e2, _, h2⟩ := h
      subst e1
      cases i with
      | zero =>
        simp at e
        subst e
        exact ⟨k', v, rfl, e2⟩
      | succ i => exact ih h2 i d (by simpa using e)
  exact fun i H S p hs =>
    ⟨fun e => ⟨p.2 _ _ _ hf, by rw [← hd.length]; rw [List.length_map] at e; omega⟩, fun d e => by
      obtain ⟨k, v, e1, e2⟩ := gk hd i d e
      refine ⟨⟨p.2 _ _ _ hf, lt_of_get e1⟩, fun x H' ⟨h3, k', v', q, h4, h5, h6⟩ => ?_⟩
      subst h3
      rw [e1] at h4
      cases h4
      subst e2 h5
      refine ⟨Same.refl _, ?_⟩
      unfold Den
      exact ⟨q, _, rfl, .inl h6, den_keys _⟩⟩
theorem it_dict {o : Obj} {ks : List (Key × V)} (I : Inv X pins σ H s) (hd : H a = some (.frz o (.dK ks))) (q : R (Itk a o ks) H) : wpAny (model X.prog X.w) X.A (pyIter (.ref a)) (PIE X pins σ tg R) X.xe s := by
  obtain ⟨hs, hgd, hx, es, ep, vs, hdt, hsz, kv, hm⟩ := I.frzK hd
  refine iter_keys hs hgd hx hdt (pi_one (tk := s.toks) I _ (turn_keys _ hdt) ⟨_, Heap.get?_push_size _ rfl, rfl, ?_⟩ q)
  rw [hsz]
  rfl
theorem it_dictT {o : Obj} {ks : List (List Key × V)} (I : Inv X pins σ H s) (hd : H a = some (.frz o (.dT ks))) (q : R (Itkt a o ks) H) : wpAny (model X.prog X.w) X.A (pyIter (.ref a)) (PIE X pins σ tg R) X.xe s := by
  obtain ⟨hs, hgd, hx, es, ep, hdt, hsz, ent⟩ := I.frzT hd
  refine iter_keys hs hgd hx hdt (pi_one (tk := s.toks) I _ (turn_keysT _ hdt) ⟨_, Heap.get?_push_size _ rfl, rfl, ?_⟩ q)
  rw [hsz]
  rfl
variable {W : WX} {u : EF}
def fIt (u : EF) : LF := fun ρ S => (u ρ S).bind fun x S1 => ofO (itV x) S1
def fItW (u : EF) : LF := fun ρ S => (u ρ S).bind fun x S1 => ofO (itW x) S1
/-- for t in e -/
theorem diAny (he : DE X G W e u) : DI X G W tg e (fIt u) := by
  refine PI.weak (pi_val (k := fun x H1 R => ∃ d ds S1, Den2 X.km G H1 d x ∧ SrcOk G H1 S1 ∧ itV d = some ds ∧ ∀ J, Serves X.km G J ds H1 → R J H1) he fun pins σ H s x v R I rx h => ?_) fun σ H Q q => TR.of (TG1.bind ups_c q fun ρ x v S S1 H1 eo eo1 e1 r1 q1 => ?_)
  · obtain ⟨d, ds, S1, hd, hs, hi, q⟩ := h
    unfold itV at hi
    split at hi
    · cases hi
      have hd : Den X.K H _ x := hd
      unfold Den at hd
      obtain ⟨a, xs, rfl, hf, hl⟩ := hd
      cases (show v = Value.ref a from rx)
      refine it_list I hf.sq (q _ (serves_l (xs := xs) (fun H' p => (hf.pers p).sq) hl))
    · cases hi
      have hd : Den X.K H _ x := hd
      unfold Den at hd
      obtain ⟨a, xs, rfl, hf, hl⟩ := hd
      cases (show v = Value.ref a from rx)
      exact it_tup I hf.sq (q _ (serves_t hf hl))
    · cases hi
      have hd : Den X.K H _ x := hd
      unfold Den at hd
      subst hd
      obtain ⟨t, rfl⟩ := rx
      exact it_str I (q _ serves_s)
    · cases hi
      obtain ⟨a, rfl, ⟨o, ks, h1, h2⟩ | ⟨o, ks, h1, h2⟩⟩ := hd
      · cases (show v = Value.ref a from rx)
        exact it_dict I h1 (q _ (serves_k h1 h2))
      · cases (show v = Value.ref a from rx)
        exact it_dictT I h1 (q _ (serves_kt h1 h2))
    · cases hi
  · cases hi : itV x with
    | none => rw [hi] at q1; exact q1.elim
    | some ds =>
      rw [hi] at q1
      exact ⟨x, ds, S1, r1, eo1.src, hi, fun J sv => q1.ret eo1.src sv⟩
end
end L2.HL

namespace PySem.HLx
open PySem PySem.Spec PyProof.Rows
theorem enum_new1 {v : Value} {o : Obj} {B0 : Heap → Prop} (B : Begins v o B0) :
    Meets (Builtin.«enumerate.__new__» ⟨[.type "enumerate", v], []⟩) (fun _ R s => B0 s.heap ∧
      R (.ok (.ret (.ref (s.heap.push o).objs.size))) { s with heap := (s.heap.push o).push { cls := .type "enumerate", data := .fields #[.none, .bool false, .ref s.heap.objs.size, rawInt 0, .none, .none] } }) :=
  .of_wp fun prog w A R s hh => by
    obtain ⟨hp, gg, dr, tk, oss⟩ := s
    obtain ⟨b0, hh⟩ := hh
    have hsub := sub_enumerate
    have q0 : ∀ {A' : Around} {E : Value → Shared → Prop} {Q : Value → Shared → Prop}, Q (.ref hp.objs.size) ⟨hp.push o, gg, dr, tk, oss⟩ → wpAny (model prog w) A' (pyIter v) Q E ⟨hp, gg, dr, tk, oss⟩ :=
      fun q => B.iter prog w _ _ ⟨hp, gg, dr, tk, oss⟩ _ b0 q
    wp_walk using q0
    refine wpAny_stack_any fun st => wpAny_pure ?_
    split
    · rename_i c _ _ _ _ _
      cases (c == Value.type "enumerate")
      · wp_walk using q0
        exact ⟨_, rfl, hh⟩
      · wp_walk using q0
        exact ⟨_, rfl, hh⟩
    · wp_walk using q0
      exact ⟨_, rfl, hh⟩
section
variable {prog : Program} {w : World} {A : Around} {E : Value → Shared → Prop} {s : Shared}
theorem call_enum {v : Value} {o : Obj} {B0 : Heap → Prop} {Q : Value → Shared → Prop} (B : Begins v o B0) (b0 : B0 s.heap)
    (hq : ∀ h', IsEnum h' (s.heap.objs.size + 1) s.heap.objs.size 0 .none → h'.get? s.heap.objs.size = some o → (∀ b o, s.heap.get? b = some o → h'.get? b = some o) → Q (.ref (s.heap.objs.size + 1)) { s with heap := h' }) :
    wpAny (model prog w) A (call (.type "enumerate") [v]) Q E s := by
  refine callType_new F.called_enumerate (by decide) (F.typeCall_enumerate_1 _) (F.newCall_enumerate_1 _) (fun obj => F.args_object_init_2 obj _) F.entry_enumerate_new (enum_new1 B) ⟨b0, ?_⟩
  have z0 : (s.heap.push o).objs.size = s.heap.objs.size + 1 := Heap.size_push ..
  show _ ∧ _
  rw [z0]
  have he : IsEnum ((s.heap.push o).push { cls := .type "enumerate", data := .fields #[.none, .bool false, .ref s.heap.objs.size, rawInt 0, .none, .none] }) (s.heap.objs.size + 1) s.heap.objs.size 0 .none := by
    have q := Heap.get?_push_size (s.heap.push o) (o := { cls := .type "enumerate", data := .fields #[.none, .bool false, .ref s.heap.objs.size, rawInt 0, .none, .none] }) rfl
    rw [z0] at q
    exact q
  exact ⟨⟨_, he, rfl⟩, hq _ he (Heap.get?_push_of_some _ (Heap.get?_push_size _ B.free)) fun b o x => Heap.get?_push_of_some _ (Heap.get?_push_of_some _ x)⟩
end
end PySem.HLx
namespace L2.HL
open PySem PySem.Spec PyProof.Rows
section
variable {X : Cx} {tg e : Expr} {G : Gh} {W : WX} {u : EF} {g : AF} {p pos tpos : Pos} {elts : List Expr} {kk : Nat}
/-! ### an own one in a comprehension -/
theorem dieOwn (he : DV X G W e u) : DIe X G W tg e (fItW u) := by
  refine PI.weak (pi_val (k := fun x H1 R => ∃ d ds S1, DB X.km G H1 H1 d x ∧ SrcOk G H1 S1 ∧ itW d = some ds ∧ ∀ J, ServesE X.km G J ds H1 → R J H1) he fun pins σ H s x v R I rx h => ?_) fun σ H Q q => TR.of (TG1.bind ups_c q fun ρ x v S S1 H1 eo eo1 e1 r1 q1 => ?_)
  · obtain ⟨d, ds, S1, hd, hs, hi, q⟩ := h
    unfold itW at hi
    split at hi
    · cases hi
      have hd2 := hd
      obtain ⟨a, xs, rfl, hf, hl⟩ := hd.list
      cases (show v = Value.ref a from rx)
      refine it_list I (.inl hf) (q _ (serves_le hs (fun H' ex => ?_) hl))
      rcases hf with hf | ⟨o, hf⟩
      · refine .inl (.inl (ex _ _ hf (fun z => ?_) (fun z => ?_)))
        · rcases hd2 with hd2 | ⟨a', e1, n1, n2, _⟩
          · have hd2 : Den X.K H _ _ := hd2
            unfold Den at hd2
            obtain ⟨a', xs', e1, ⟨o, hf'⟩, _⟩ := hd2
            cases e1
            rw [hf'] at hf; cases hf
          · cases e1; exact n1 z
        · rcases hd2 with hd2 | ⟨a', e1, n1, n2, _⟩
          · have hd2 : Den X.K H _ _ := hd2
            unfold Den at hd2
            obtain ⟨a', xs', e1, ⟨o, hf'⟩, _⟩ := hd2
            cases e1
            rw [hf'] at hf; cases hf
          · cases e1; exact n2 z
      · exact .inl (.inr ⟨o, (Ext.pers hs ex).2 _ _ _ hf⟩)
    · cases hi
      obtain ⟨a, xs, rfl, hf, hl⟩ := hd.tup
      cases (show v = Value.ref a from rx)
      exact it_tup I hf.sq (q _ fun i H2 S2 x y => serves_t (X := X.km) (G := G) hf hl i H2 S2 (Ext.pers hs x) y)
    · cases hi
      have hd := hd.str
      subst hd
      obtain ⟨t, rfl⟩ := rx
      exact it_str I (q _ fun i H2 S2 x y => serves_s (X := X.km) (G := G) (H1 := H) i H2 S2 (Ext.pers hs x) y)
    · cases hi
  · cases hi : itW x with
    | none => rw [hi] at q1; exact q1.elim
    | some ds =>
      rw [hi] at q1
      exact ⟨x, ds, S1, r1, eo1.src, hi, fun J sv => q1.ret eo1.src sv⟩
/-! ### range -/
def rngD (i j : Int) : List PyData := (List.range (j - i).toNat).map fun k => .int (i + (k : Nat))
def rngOk (i : Int) : Bool := decide (-(2 ^ 62) ≤ i ∧ i < 2 ^ 62)
def rngF1 : List Vl → Option (List PyData)
  | [.dat (.int j)] => if rngOk j = true then some (rngD 0 j) else none
  | _ => none
def rngF2 : List Vl → Option (List PyData)
  | [.dat (.int i), .dat (.int j)] => if (rngOk i && rngOk j) = true then some (rngD i j) else none
  | _ => none
def fRng1 (g : AF) : LF := fun ρ S => (g ρ S).bind fun xs S1 => ofO (rngF1 xs) S1
def fRng2 (g : AF) : LF := fun ρ S => (g ρ S).bind fun xs S1 => ofO (rngF2 xs) S1
theorem serves_r {X : KM} {i j : Int} {H1 : Hp} : Serves X G (Itr i (j - i).toNat) (rngD i j) H1 := fun k H S p hs =>
  ⟨fun e => by
    unfold rngD at e
    rw [List.length_map, List.length_range] at e
    exact Nat.le_of_eq e.symm, fun d e => by
    unfold rngD at e
    rw [List.getElem?_map] at e
    obtain ⟨c, e1, e2⟩ := Option.map_eq_some_iff.mp e
    have hk : k < (j - i).toNat := by have := lt_of_get e1; rwa [List.length_range] at this
    rw [List.getElem?_range hk] at e1
    cases e1
    refine ⟨hk, fun x H' ⟨h3, h4⟩ => ?_⟩
    subst h3 e2 h4
    exact ⟨Same.refl _, by unfold Den; rfl⟩⟩
theorem diRng1 {a : Expr} (ha : DAv X G W [a] g) (hm : X.mg "range" = none) (hg : Gl X "range" := by rfl) (hs : starEach [a] X.env = [(false, eval a X.env)] := by rfl) : DI X G W tg (.Call (.Name "range" p) [a] [] pos) (fRng1 g) :=
  PI.weak (pi_range1 hg hm ha hs) fun σ H Q q => TA1.of (TG1.bind ups_c q fun ρ xs vs S S1 H1 eo eo1 e1 ab q1 => by
    cases hf : rngF1 xs with
    | none => rw [hf] at q1; exact q1.elim
    | some ds =>
      rw [hf] at q1
      unfold rngF1 at hf
      split at hf
      · split at hf
        · rename_i hz
          cases hf
          obtain ⟨v, rfl, hd⟩ := AllB.one ab
          have e2 := hd.int
          subst e2
          have z := of_decide_eq_true hz
          refine ⟨_, rfl, z.1, z.2, ?_⟩
          have s := serves_r (G := G) (X := X.km) (i := 0) (j := ‹Int›) (H1 := H1)
          simp only [Int.sub_zero] at s
          exact q1.ret eo1.src s
        · cases hf
      · cases hf)
theorem diRng2 {a b : Expr} (ha : DAv X G W [a, b] g) (hm : X.mg "range" = none) (hg : Gl X "range" := by rfl) (hs : starEach [a, b] X.env = [(false, eval a X.env), (false, eval b X.env)] := by rfl) (hs2 : starEach [b] X.env = [(false, eval b X.env)] := by rfl) :
    DI X G W tg (.Call (.Name "range" p) [a, b] [] pos) (fRng2 g) :=
  PI.weak (pi_range2 hg hm ha hs hs2) fun σ H Q q => TA1.of (TG1.bind ups_c q fun ρ xs vs S S1 H1 eo eo1 e1 ab q1 => by
    cases hf : rngF2 xs with
    | none => rw [hf] at q1; exact q1.elim
    | some ds =>
      rw [hf] at q1
      unfold rngF2 at hf
      split at hf
      · split at hf
        · rename_i hz
          cases hf
          obtain ⟨v, u, rfl, hd, he⟩ := AllB.two ab
          have e1 := hd.int
          have e2 := he.int
          subst e1 e2
          rw [Bool.and_eq_true] at hz
          have z1 := of_decide_eq_true hz.1
          have z2 := of_decide_eq_true hz.2
          exact ⟨_, _, rfl, ⟨z1.1, z1.2, z2.1, z2.2⟩, q1.ret eo1.src serves_r⟩
        · cases hf
      · cases hf)
/-! ### enumerate -/
def enumD (ds : List PyData) : List PyData := (List.range ds.length).map fun k => .tuple [.int (k : Nat), ds.getD k .none]
def enumF : List Vl → Option (List PyData)
  | [.dat (.list ds)] => some (enumD ds)
  | [.dat (.tuple ds)] => some (enumD ds)
  | _ => none
def fEnum (g : AF) : LF := fun ρ S => (g ρ S).bind fun xs S1 => ofO (enumF xs) S1
theorem enumD_len (ds : List PyData) : (enumD ds).length = ds.length := by unfold enumD; rw [List.length_map, List.length_range]
theorem enumD_get {ds : List PyData} {i : Nat} {d : PyData} (h : ds[i]? = some d) : (enumD ds)[i]? = some (.tuple [.int (i : Nat), d]) := by
  have hl : i < ds.length := lt_of_get h
  unfold enumD
  rw [List.getElem?_map, List.getElem?_range hl]
  show some (PyData.tuple [.int (i : Nat), ds.getD i .none]) = _
  rw [List.getD_eq_getElem?_getD, h]
  rfl
theorem walksT_of {P : Program} {w : World} {A : Around} {I0 : Addr} {fp wr : List Addr} {n m : Nat} {Pt : Nat → Array Value → Prop} {St St' : Nat → Heap → Prop} {Mid : Nat → Addr → Heap → Prop} (W : WalksT P w A I0 fp wr n Pt St Mid) (hn : n = m) (h : ∀ i h, St i h ↔ St' i h) : WalksT P w A I0 fp wr m Pt St' Mid := by
  have e : St = St' := by funext i hp; exact propext (h i hp)
  subst e hn
  exact W
theorem turn_en {P : Program} {w : World} {K : PySem.W.Frag} {ds : List PyData} {a en it : Addr} {pre : Hp → Prop} {o : Bool} (n1 : en ≠ it) (n2 : en ≠ a) (n3 : a ≠ it)
    (hc : ∀ (X : Cx), X.prog = P → X.w = w → X.K = K → ∀ (pins : List (Addr × Obj)) (σ : St) (H : Hp) (s : Shared), Inv X pins σ H s → pre H → ∃ (its : List Value) (xs : List V), Vals xs its ∧ DenL K H ds xs ∧ (if o = true then s.heap.IsList a its.toArray else s.heap.IsTuple a its.toArray)) :
    Turn P w K (.Tuple elts kk tpos) (JW K (enumD ds) pre) [en, it] en (fun i h => (∃ old, IsEnum h en it ((i : Nat) : Int) old) ∧ (if o = true then h.IsListIter it a i else h.IsTupleIter it a i)) := by
  cases o with
  | true =>
    refine turn_T (C := { c : Array Value // c.size = (enumD ds).length }) (fp := fun _ => [en, it, a]) (Ct := fun c h => h.IsList a c.1) (Pt := fun c i vals => ∃ t x, c.1[i]? = some x ∧ vals = #[.int (0 + (i : Int)) t, x]) (by simp) (fun A c hh => walksT_of (WalksT.enumFrom 0 (Draws.list (A := A.in1) hh it a n3 c.1) en n1 (by simp [n1, n2]) (by simp)) c.2 (fun i h => ?_)) (fun i h st b hb => ?_) (fun i h h' st k => ?_) (fun A i s Q E st h => ?_) (fun X hP hw hK pins σ H s I hp => ?_)
    · simp only [Int.zero_add, if_true]
      exact ⟨fun ⟨x, y, z⟩ => ⟨⟨x, y⟩, z⟩, fun ⟨⟨x, y⟩, z⟩ => ⟨x, y, z⟩⟩
    · obtain ⟨⟨old, he⟩, hi⟩ := st
      simp only [if_true] at hi
      obtain ⟨oi, h1, h2, h3⟩ := hi
      have e' : b = en ∨ b = it := by simpa using hb
      rcases e' with z | z
      · rw [z]; exact ⟨_, he, fun _ q => nomatch q⟩
      · rw [z]; exact ⟨oi, h1, fun _ q => by rw [h3] at q; cases q⟩
    · obtain ⟨⟨old, he⟩, hi⟩ := st
      simp only [if_true] at hi ⊢
      exact ⟨⟨old, k en (by simp) _ he⟩, hi.at fun o q => k it (by simp) o q⟩
    · obtain ⟨⟨old, he⟩, hi⟩ := st
      exact wpAny_pyIter_enum he h
    · subst hP hw hK
      obtain ⟨its, xs, rv, dl, hl⟩ := hc X rfl rfl rfl pins σ H s I hp
      simp only [if_true] at hl
      refine ⟨⟨its.toArray, by rw [List.size_toArray, enumD_len, ← rv.length, dl.length]⟩, hl, fun i vals ⟨t, x, hx, ev⟩ => ?_⟩
      subst ev
      have hx : its[i]? = some x := by simpa using hx
      have hlt : i < ds.length := by rw [dl.length, rv.length]; exact lt_of_get hx
      obtain ⟨v, hv, dv⟩ := dl.get (List.getElem?_eq_getElem hlt)
      obtain ⟨x', hx', rx⟩ := rv.get hv
      rw [hx] at hx'
      cases hx'
      refine ⟨_, [.int (i : Nat), v], enumD_get (List.getElem?_eq_getElem hlt), .cons ⟨t, by simp⟩ (.cons rx .nil), DenL.cons (by unfold Den; rfl) (DenL.one dv), by show 2 ≤ sizeLine; decide⟩
  | false =>
    refine turn_T (C := { c : Array Value // c.size = (enumD ds).length }) (fp := fun _ => [en, it, a]) (Ct := fun c h => h.IsTuple a c.1) (Pt := fun c i vals => ∃ t x, c.1[i]? = some x ∧ vals = #[.int (0 + (i : Int)) t, x]) (by simp) (fun A c hh => walksT_of (WalksT.enumFrom 0 (Draws.tuple (A := A.in1) hh it a n3 c.1) en n1 (by simp [n1, n2]) (by simp)) c.2 (fun i h => ?_)) (fun i h st b hb => ?_) (fun i h h' st k => ?_) (fun A i s Q E st h => ?_) (fun X hP hw hK pins σ H s I hp => ?_)
    · simp only [Int.zero_add, Bool.false_eq_true, if_false]
      exact ⟨fun ⟨x, y, z⟩ => ⟨⟨x, y⟩, z⟩, fun ⟨⟨x, y⟩, z⟩ => ⟨x, y, z⟩⟩
    · obtain ⟨⟨old, he⟩, hi⟩ := st
      simp only [Bool.false_eq_true, if_false] at hi
      obtain ⟨oi, h1, h2, h3⟩ := hi
      have e' : b = en ∨ b = it := by simpa using hb
      rcases e' with z | z
      · rw [z]; exact ⟨_, he, fun _ q => nomatch q⟩
      · rw [z]; exact ⟨oi, h1, fun _ q => by rw [h3] at q; cases q⟩
    · obtain ⟨⟨old, he⟩, hi⟩ := st
      simp only [Bool.false_eq_true, if_false] at hi ⊢
      exact ⟨⟨old, k en (by simp) _ he⟩, hi.at fun o q => k it (by simp) o q⟩
    · obtain ⟨⟨old, he⟩, hi⟩ := st
      exact wpAny_pyIter_enum he h
    · subst hP hw hK
      obtain ⟨its, xs, rv, dl, hl⟩ := hc X rfl rfl rfl pins σ H s I hp
      simp only [Bool.false_eq_true, if_false] at hl
      refine ⟨⟨its.toArray, by rw [List.size_toArray, enumD_len, ← rv.length, dl.length]⟩, hl, fun i vals ⟨t, x, hx, ev⟩ => ?_⟩
      subst ev
      have hx : its[i]? = some x := by simpa using hx
      have hlt : i < ds.length := by rw [dl.length, rv.length]; exact lt_of_get hx
      obtain ⟨v, hv, dv⟩ := dl.get (List.getElem?_eq_getElem hlt)
      obtain ⟨x', hx', rx⟩ := rv.get hv
      rw [hx] at hx'
      cases hx'
      refine ⟨_, [.int (i : Nat), v], enumD_get (List.getElem?_eq_getElem hlt), .cons ⟨t, by simp⟩ (.cons rx .nil), DenL.cons (by unfold Den; rfl) (DenL.one dv), by show 2 ≤ sizeLine; decide⟩
/-- enumerate(e), e shared -/
theorem diEnum {a : Expr} (ha : DAs X G W [a] g) (hm : X.mg "enumerate" = none) (hg : Gl X "enumerate" := by rfl) (hs : starEach [a] X.env = [(false, eval a X.env)] := by rfl) : DI X G W (.Tuple elts kk tpos) (.Call (.Name "enumerate" p) [a] [] pos) (fEnum g) := by
  refine ⟨fun pins s σ H R I q => ?_⟩
  refine Call_ (ld_blt I hg hm boot_enumerate (PyProof.Rows.callWith_type1 (thn (ha.run pos pins s σ H (fun vs H1 => ∃ d v ds, vs = [v] ∧ Den2 X.km G H1 d v ∧ enumF [d] = some ds ∧ ∀ J, Serves X.km G J ds H1 → R J H1) I ?_) fun us s1 ⟨vs, H1, I1, r1, d, v, ds, ev, hd, hf, q1⟩ => ?_) hs rfl))
  · refine TA1.of (TG1.bind ups_c q fun ρ xs vs S S1 H1 eo eo1 e1 ab q1 => ?_)
    cases hf : enumF xs with
    | none => rw [hf] at q1; exact q1.elim
    | some ds =>
      rw [hf] at q1
      have one : ∃ d, xs = [d] := by
        unfold enumF at hf
        split at hf
        · exact ⟨_, rfl⟩
        · exact ⟨_, rfl⟩
        · cases hf
      obtain ⟨d, rfl⟩ := one
      cases ab with
      | cons h1 h2 =>
        cases h2
        exact ⟨d, _, ds, rfl, h1, hf, fun J sv => q1.ret eo1.src sv⟩
  · subst ev
    obtain ⟨uv, rfl, ru⟩ : ∃ uv, us = [uv] ∧ RelV v uv := by
      cases r1 with
      | cons r rr => cases rr; exact ⟨_, rfl, r⟩
    unfold enumF at hf
    have fr2 : ∀ b ∈ [s1.heap.objs.size + 1, s1.heap.objs.size], FpOk X pins H1 b := fun b hb => by
      have hle : s1.heap.objs.size ≤ b := by
        have z : b = s1.heap.objs.size + 1 ∨ b = s1.heap.objs.size := by simpa using hb
        rcases z with z | z <;> omega
      exact I1.fpOk hle (I1.hok.fresh hle)
    split at hf
    · rename_i l h0
      cases h0
      cases hf
      have hd : Den X.K H1 _ v := hd
      have hd0 := hd
      unfold Den at hd
      obtain ⟨a, xs, rfl, hl, dl⟩ := hd
      cases (show uv = Value.ref a from ru)
      obtain ⟨its, rv, pl, hz⟩ := I1.list hl.sq
      refine PySem.HLx.call_enum (begins_list a its.toArray) pl.isList fun h' he hit hk => wpAny_pyIter_enum he ?_
      have la : a < s1.heap.objs.size := pl.lt
      refine ⟨s1.heap.objs.size + 1, [s1.heap.objs.size + 1, s1.heap.objs.size], _, _, H1, rfl, I1.kept (t' := s1.toks) hk, turn_en (o := true) (en := s1.heap.objs.size + 1) (it := s1.heap.objs.size) (ds := l) (a := a) (pre := fun H => Den X.K H (.list l) (.ref a)) (Nat.succ_ne_self _) (Nat.ne_of_gt (Nat.lt_succ_of_lt la)) (Nat.ne_of_lt la) (fun Y hP hw hK pins σ H s I hp => ?_), ⟨⟨.none, he⟩, ?_⟩, fr2, q1 _ (JW.serves fun H p => Den.pers p _ _ hd0)⟩
      · have hp : Den X.K H (.list l) (.ref a) := hp
        unfold Den at hp
        obtain ⟨a', xs', e1, hf', d'⟩ := hp
        cases e1
        obtain ⟨its', rv', p', _⟩ := I.list hf'.sq
        exact ⟨its', xs', rv', d', by simp only [if_true]; exact p'.isList⟩
      · simp only [if_true]
        exact ⟨_, hit, rfl, rfl⟩
    · rename_i l h0
      cases h0
      cases hf
      have hd : Den X.K H1 _ v := hd
      have hd0 := hd
      unfold Den at hd
      obtain ⟨a, xs, rfl, hl, dl⟩ := hd
      cases (show uv = Value.ref a from ru)
      obtain ⟨its, rv, pl, hz⟩ := I1.tuple hl.sq
      refine PySem.HLx.call_enum (begins_tuple a its.toArray) (show s1.heap.IsTuple a its.toArray from pl) fun h' he hit hk => wpAny_pyIter_enum he ?_
      have la : a < s1.heap.objs.size := by obtain ⟨o, ho, _⟩ := pl; exact Heap.lt_size ho
      refine ⟨s1.heap.objs.size + 1, [s1.heap.objs.size + 1, s1.heap.objs.size], _, _, H1, rfl, I1.kept (t' := s1.toks) hk, turn_en (o := false) (en := s1.heap.objs.size + 1) (it := s1.heap.objs.size) (ds := l) (a := a) (pre := fun H => Den X.K H (.tuple l) (.ref a)) (Nat.succ_ne_self _) (Nat.ne_of_gt (Nat.lt_succ_of_lt la)) (Nat.ne_of_lt la) (fun Y hP hw hK pins σ H s I hp => ?_), ⟨⟨.none, he⟩, ?_⟩, fr2, q1 _ (JW.serves fun H p => Den.pers p _ _ hd0)⟩
      · have hp : Den X.K H (.tuple l) (.ref a) := hp
        unfold Den at hp
        obtain ⟨a', xs', e1, hf', d'⟩ := hp
        cases e1
        rw [← hK] at hf'
        obtain ⟨its', rv', p', _⟩ := I.tuple hf'.sq
        exact ⟨its', xs', rv', d', by simp only [Bool.false_eq_true, if_false]; exact p'⟩
      · simp only [Bool.false_eq_true, if_false]
        exact ⟨_, hit, rfl, rfl⟩
    · cases hf
end
end L2.HL

set_option maxHeartbeats 8000000
/-! sets of ints and texts: set(list), sorted(set), len(set). The table is told by what a step may do to it (Rel), the keys by a permutation. -/
namespace L2.HL
open PySem PySem.Spec PyProof.Rows
def keyE (e : Int × Value) : Key := match e.2 with
  | .int i _ => .inl i
  | .str x _ => .inr x
  | _ => .inl 0
def KE1 (w : World) (e : Int × Value) : Prop := ∃ k : Key, keyIs k e.2 = true ∧ e.1 = keyH w k
theorem keyE_of {k : Key} {e : Int × Value} (h : keyIs k e.2 = true) : keyE e = k := by
  unfold keyE
  rcases keyIs_shape h with ⟨i, t, rfl, q⟩ | ⟨x, t, rfl, q⟩ <;> rw [q]
def memK (ks : List Key) (j : Key) : Bool := ks.any fun k => decide (k = j)
theorem memK_iff {ks : List Key} {j : Key} : memK ks j = true ↔ j ∈ ks := by
  unfold memK
  rw [List.any_eq_true]
  exact ⟨fun ⟨x, h, e⟩ => of_decide_eq_true e ▸ h, fun h => ⟨j, h, decide_eq_true rfl⟩⟩
theorem memK_next {ks : List Key} {i : Nat} {z : Key} (hz : ks[i]? = some z) (j : Key) : memK (ks.take (i + 1)) j = (memK (ks.take i) j || decide (j = z)) := by
  rw [Bool.eq_iff_iff, memK_iff, Bool.or_eq_true, memK_iff, decide_eq_true_eq, List.take_add_one, hz, List.mem_append]
  simp
/-! ### a table that can be walked, and the steps that keep it so -/
structure Good (w : World) (es : Array (Int × Value)) (t : SetTable) : Prop where
  fit : t.fits es.size = true
  up : Ris t.place.toList
  led : w.params.followText "set-order" = true ∨ t.led = true
theorem Good.lay {w : World} {es : Array (Int × Value)} {t : SetTable} (g : Good w es t) (n : Int) (v : Value) : Good w (layNew t es n v).1 (layNew t es n v).2.1 :=
  ⟨layNew_fits t es n v, layNew_ris t es n v g.up, g.led.imp id fun z => (layNew_led t es n v).trans z⟩
theorem Good.off {w : World} {es : Array (Int × Value)} {t : SetTable} (g : Good w es t) : Good w es { t with plain := false } := ⟨SetTable.fits_plain_off g.fit, g.up, g.led⟩
theorem Good.re {w : World} {es : Array (Int × Value)} {t : SetTable} (g : Good w es t) (n : Nat) : Good w (relayAll t es n).1 (relayAll t es n).2.1 :=
  ⟨relayAll_fits t es n, relayAll_ris t es n, g.led.imp id fun z => (relayAll_led t es n).trans z⟩
/-- at a: a set of these entries (in any order), its table good -/
def Has (w : World) (hp : Heap) (a : Addr) (l : List (Int × Value)) : Prop := ∃ o es ep t, hp.get? a = some o ∧ o.ExactSet ∧ o.data = .set es ep t ∧ es.toList.Perm l ∧ Good w es t
theorem Has.keep {w : World} {hp hp' : Heap} {a : Addr} {l : List (Int × Value)} (x : Has w hp a l) (k : ∀ o, hp.get? a = some o → hp'.get? a = some o) : Has w hp' a l :=
  let ⟨o, es, ep, t, e, r⟩ := x; ⟨o, es, ep, t, k o e, r⟩
section
variable {P : Program} {w : World} {A : Around} {E : Value → Shared → Prop} {s : Shared} {a : Addr}
/-- one store -/
theorem Has.store {hp : Heap} {o : Obj} {es es' : Array (Int × Value)} {ep : Nat} {t t' : SetTable} {l : List (Int × Value)} (e : hp.get? a = some o) (x : o.ExactSet) (d : o.data = .set es ep t) (p : es'.toList.Perm l) (g : Good w es' t') :
    ∃ o', (hp.update a (Obj.putSet es' t')).get? a = some o' ∧ o'.ExactSet ∧ o'.data = .set es' (ep + 1) t' ∧ Has w (hp.update a (Obj.putSet es' t')) a l :=
  ⟨_, store_at e d, x, rfl, _, es', _, t', store_at e d, x, rfl, p, g⟩
/-- whether a rule is noted or not -/
theorem told {b : Bool} {n : String} {Q : Unit → Shared → Prop} (q : Q () s) : wpAny (model P w) A (match b with | true => rule n | false => pure ()) Q E s := by
  cases b
  · exact wpAny_pure q
  · exact wpAny_rule q
/-- what stands behind a scan that found nothing: the entry is laid, the table laid anew where it is too full -/
theorem laid_tail {o : Obj} {es : Array (Int × Value)} {ep : Nat} {t : SetTable} {l : List (Int × Value)} {es' : Array (Int × Value)} {t' : SetTable} {was : Bool} {n : String} {R : Option Bool → Shared → Prop} (e : s.heap.get? a = some o) (x : o.ExactSet) (d : o.data = .set es ep t)
    (p : es'.toList.Perm l) (g : Good w es' t') (small : l.length < scanBound) (hR : ∀ hp, Heap.SameBut a s.heap hp → Has w hp a l → R (some true) { s with heap := hp }) :
    wpAny (model P w) A (do
      storeSet a es' t'
      if (!was && t'.tooFull) = true then
        (match (relayAll t' es' (SetTable.grown es'.size)).2.2 with | true => rule n | false => pure () : Sem Unit)
        storeSet a (relayAll t' es' (SetTable.grown es'.size)).1 (relayAll t' es' (SetTable.grown es'.size)).2.1
        pure (some true)
      else pure (some true)) R E s := by
  have len : ∀ {u : Array (Int × Value)}, u.toList.Perm l → u.size ≤ sizeLine := fun {u} q => fits_of_scanBound (by
    have := q.length_eq
    rw [Array.length_toList] at this
    omega)
  obtain ⟨o1, e1, x1, d1, has1⟩ := Has.store e x d p g
  refine wpAny_bind (wpAny_storeSet_of e d ?_ (len p))
  have sb := Heap.SameBut.update s.heap a (Obj.putSet es' t')
  split
  · have gg := g.re (SetTable.grown es'.size)
    have pp := (relayAll_perm t' es' (SetTable.grown es'.size)).trans p
    obtain ⟨o2, e2, x2, d2, has2⟩ := Has.store (w := w) e1 x1 d1 pp gg
    exact wpAny_bind (told (wpAny_bind (wpAny_storeSet_of e1 d1 (wpAny_pure (hR _ (sb.trans (Heap.SameBut.update _ a _)) has2)) (len pp))))
  · exact wpAny_pure (hR _ sb has1)
/-- the entry of a key -/
def ent (w : World) (k : Key) (v : Value) : Int × Value := (keyH w k, v)
/-- the keys at a, in any order, each once -/
def Keys (w : World) (hp : Heap) (a : Addr) (ks : List Key) : Prop := ∃ l, Has w hp a l ∧ (∀ e ∈ l, KE1 w e) ∧ l.map keyE = ks
theorem ke_all {l : List (Int × Value)} (g : ∀ e ∈ l, KE1 w e) : ElemsOf (mixKind P w) l := fun e he => by
  obtain ⟨k, h1, h2⟩ := g e he
  refine ⟨⟨k, h1, h2⟩, ?_⟩
  rcases keyIs_shape h1 with ⟨i, u, rfl, q⟩ | ⟨x, u, rfl, q⟩ <;> (rw [q]; rfl)
/-- a key is added: it stands there, or it comes ahead of the others -/
theorem keys_add {k : Key} {v : Value} {ks : List Key} {Q : Bool → Shared → Prop} (hv : keyIs k v = true) (x : Keys w s.heap a ks) (room : ks.length + 1 < scanBound)
    (q : ∀ hp b, Heap.SameBut a s.heap hp → Keys w hp a (if memK ks k = true then ks else k :: ks) → Q b { s with heap := hp }) : wpAny (model P w) A (setAddHashed a v ((mixKind P w).hash k)) Q E s := by
  obtain ⟨l, ⟨o, es, ep, t, e, ex, d, p, g⟩, gl, rfl⟩ := x
  have ge : ∀ c ∈ es.toList, KE1 w c := fun c hc => gl c (p.mem_iff.mp hc)
  have el := ke_all (P := P) ge
  have sc : v.scannable = true := by rcases keyIs_shape hv with ⟨i, u, rfl, z⟩ | ⟨y, u, rfl, z⟩ <;> (rw [z]; rfl)
  have sm : es.size < scanBound := by
    have := p.length_eq
    rw [Array.length_toList] at this
    rw [List.length_map] at room
    omega
  have met : memK (l.map keyE) k = (es.toList.findIdx? fun c => (mixKind P w).is k c.2).isSome := by
    rw [List.findIdx?_isSome, Bool.eq_iff_iff, memK_iff, List.any_eq_true, ← (p.map keyE).mem_iff, List.mem_map]
    refine ⟨fun ⟨c, hc, z⟩ => ⟨c, hc, ?_⟩, fun ⟨c, hc, z⟩ => ⟨c, hc, keyE_of z⟩⟩
    obtain ⟨k0, h1, _⟩ := ge c hc
    rw [keyE_of h1] at z
    exact z ▸ h1
  unfold setAddHashed setAddHashedIn
  refine wpAny_holding (wpAny_bind (wpAny_setState_of e d g.fit ?_))
  dsimp only
  rw [byScan_of sc sm el, if_pos rfl]
  unfold setAddByScan
  refine wpAny_bind (wpAny_bind (wpAny_rule (wpAny_bind (wpAny_setScan_of (show (mixKind P w).is k v = true from hv) e d g.fit el ?_))))
  cases f : es.toList.findIdx? fun c => (mixKind P w).is k c.2 with
  | some j =>
    rw [f] at met
    refine wpAny_pure (wpAny_pure (q s.heap _ (Heap.SameBut.refl a s.heap) ?_))
    rw [met]
    exact ⟨l, ⟨o, es, ep, t, e, ex, d, p, g⟩, gl, rfl⟩
  | none =>
    rw [f] at met
    have pl : (layNew t es ((mixKind P w).hash k) v).1.toList.Perm (ent w k v :: l) := by
      refine (layNew_perm t es _ v).trans ?_
      rw [Array.toList_push]
      exact (List.perm_append_singleton _ _).trans (p.cons _)
    have gn := g.lay ((mixKind P w).hash k) v
    have room' : (ent w k v :: l).length < scanBound := by
      rw [List.length_map] at room
      exact room
    have last : ∀ hp b, Heap.SameBut a s.heap hp → Has w hp a (ent w k v :: l) → Q b { s with heap := hp } := fun hp b sb h => q hp b sb (by
      rw [met]
      refine ⟨_, h, fun c hc => ?_, ?_⟩
      · rcases List.mem_cons.mp hc with z | z
        · exact z ▸ ⟨k, hv, rfl⟩
        · exact gl c z
      · rw [List.map_cons, keyE_of (e := ent w k v) hv]
        rfl)
    dsimp only
    refine wpAny_bind (told ?_)
    split
    · rw [hashByValue_scannable 8 sc]
      refine wpAny_bind (wpAny_pure ?_)
      refine laid_tail e ex d pl ?_ room' fun hp sb h => wpAny_pure (last hp true sb h)
      first | exact gn | (split <;> first | exact gn | exact gn.off)
    · refine wpAny_bind (wpAny_pure ?_)
      simp only [if_true]
      exact laid_tail e ex d pl gn room' fun hp sb h => wpAny_pure (last hp true sb h)
/-- the keys seen so far: each once -/
def Seen (w : World) (hp : Heap) (a : Addr) (ks : List Key) : Prop := ∃ cs, Keys w hp a cs ∧ cs.Nodup ∧ (∀ j, j ∈ cs ↔ j ∈ ks) ∧ cs.length ≤ ks.length
theorem Seen.keep {hp hp' : Heap} {ks : List Key} (x : Seen w hp a ks) (k : ∀ o, hp.get? a = some o → hp'.get? a = some o) : Seen w hp' a ks :=
  let ⟨cs, ⟨l, h, r⟩, z⟩ := x; ⟨cs, ⟨l, h.keep k, r⟩, z⟩
theorem Seen.next {hp : Heap} {ks cs : List Key} {k : Key} (nd : cs.Nodup) (m : ∀ j, j ∈ cs ↔ j ∈ ks) (z : cs.length ≤ ks.length) (x : Keys w hp a (if memK cs k = true then cs else k :: cs)) : Seen w hp a (ks ++ [k]) := by
  refine ⟨_, x, ?_⟩
  split
  · rename_i h
    refine ⟨nd, fun j => ?_, by rw [List.length_append]; exact Nat.le_trans z (Nat.le_add_right _ _)⟩
    rw [List.mem_append, List.mem_singleton, m]
    exact ⟨.inl, fun q => q.elim id fun e => e ▸ (m k).mp (memK_iff.mp h)⟩
  · rename_i h
    refine ⟨List.nodup_cons.mpr ⟨fun q => h (memK_iff.mpr q), nd⟩, fun j => ?_, by rw [List.length_cons, List.length_append]; exact Nat.succ_le_succ z⟩
    rw [List.mem_cons, List.mem_append, List.mem_singleton, m]
    exact Or.comm
theorem den_of {id : String} {args : Args} {b : Builtin} (hb : entryFor table id = some b) : (model P w).den (.builtin id args) = b args := by
  show (match entryFor table id with | some b => b args | none => unsupported ((withoutEnding? id "#data").getD id)) = b args
  rw [hb]
/-- all keys of a walk are added -/
theorem seen_loop {I : Addr} {fp : List Addr} {n : Nat} {Pv : Nat → Value → Prop} {St : Nat → Heap → Prop} {R : Result → Shared → Prop} (W : Walks P w A.in1 I fp [I] n Pv St) (nD : a ∉ fp) (hI : I ∈ fp) {ks : List Key} (hn : n = ks.length) (room : ks.length + 1 < scanBound)
    (hv : ∀ i v, Pv i v → ∃ k, ks[i]? = some k ∧ keyIs k v = true) (st : St 0 s.heap) (h0 : Seen w s.heap a [])
    (hR : ∀ hp tk, (∀ b o, b ≠ a → b ≠ I → s.heap.get? b = some o → hp.get? b = some o) → Seen w hp a ks → R (.ok (.ret .none)) { s with heap := hp, toks := tk }) :
    codeAny (model P w) A (.builtin "set.update.loop" ⟨[.ref a, .ref I], []⟩) R s := by
  have aI : a ≠ I := fun z => nD (z ▸ hI)
  refine codeAny_loop (plainId_quiet F.plain_set_update_loop _) (fun m s' => ∃ i hp tk, i ≤ n ∧ m = n - i ∧ s' = { s with heap := hp, toks := tk } ∧ (∀ b o, b ≠ a → b ≠ I → s.heap.get? b = some o → hp.get? b = some o) ∧ St i hp ∧ Seen w hp a (ks.take i)) (fun m s' inv => ?_) n ⟨0, s.heap, s.toks, Nat.zero_le _, rfl, rfl, fun _ _ _ _ e => e, st, by rw [List.take_zero]; exact h0⟩
  obtain ⟨i, hp, tk, hi, hm, rfl, old, sti, seen⟩ := inv
  rw [Around.under_plainId F.plain_set_update_loop _]
  rw [den_of F.entry_set_update_loop]
  show wpAny _ _ (pyNext (.ref I) >>= _) _ _ _
  refine wpAny_bind ?_
  have only : ∀ {g : Heap}, (∀ b o, b ∉ [I] → hp.get? b = some o → g.get? b = some o) → ∀ b o, b ≠ I → hp.get? b = some o → g.get? b = some o := fun k b o hb e => k b o (by simpa using hb) e
  rcases Nat.lt_or_ge i n with lt | ge
  · refine W.item i _ _ _ lt sti fun v g tk' pv st' kk => ?_
    obtain ⟨k, hk, hkv⟩ := hv i v pv
    obtain ⟨cs, ck, nd, mem, le⟩ := seen.keep fun o e => only kk a o aI e
    have small : cs.length + 1 < scanBound := by
      rw [List.length_take] at le
      omega
    refine wpAny_bind (wpAny_holding ?_)
    unfold setAdd
    refine wpAny_holding (wpAny_bind ((mixKind P w).pyHash (k := k) hkv ?_))
    refine keys_add (s := { s with heap := g, toks := tk' + 1 }) hkv ck small fun g2 b sb keys => ?_
    have here : ∀ b o, b ≠ a → g.get? b = some o → g2.get? b = some o := fun b o hb e => (sb.2 b hb).trans e
    refine wpAny_pure ⟨rfl, n - (i + 1), by omega, i + 1, g2, tk' + 1, lt, rfl, rfl, fun b o hb hb2 e => here b o hb (only kk b o hb2 (old b o hb hb2 e)), W.frame _ _ _ st' fun b hb o e => here b o (fun z => nD (z ▸ hb)) e, ?_⟩
    rw [List.take_add_one, hk]
    exact Seen.next nd mem le keys
  · obtain rfl : i = n := Nat.le_antisymm hi ge
    refine W.done _ _ _ sti fun g tk' kk => ?_
    rw [List.take_of_length_le (Nat.le_of_eq hn.symm)] at seen
    exact wpAny_pure (hR g tk' (fun b o hb hb2 e => only kk b o hb2 (old b o hb hb2 e)) (seen.keep fun o e => only kk a o aI e))
/-- a set that was just laid -/
abbrev bare (w : World) : Obj := { cls := .type "set", dict := none, data := .set #[] 0 (.fresh 0 0 (!w.params.followText "set-order")) }
theorem seen_bare {hp : Heap} (e : hp.get? a = some (bare w)) : Seen w hp a [] :=
  ⟨[], ⟨[], ⟨_, #[], 0, _, e, ⟨rfl, rfl, rfl⟩, rfl, List.Perm.refl _, rfl, List.Pairwise.nil, by cases h : w.params.followText "set-order" <;> simp [SetTable.fresh, h]⟩, fun _ h => (by cases h), rfl⟩, List.nodup_nil, fun _ => Iff.rfl, Nat.le_refl _⟩
/-- what set.__init__ does with a list of keys -/
theorem init_of_list {D l : Addr} {its : Array Value} {ks : List Key} {B : Around} {T : Fin → Shared → Prop} {F1 : Value → Shared → Prop} (hh : B.handled = none) (eD : s.heap.get? D = some (bare w)) (hl : s.heap.IsList l its) (hD : D ≠ l) (hit : ∀ (i : Nat) (v : Value), its[i]? = some v → ∃ k, ks[i]? = some k ∧ keyIs k v = true)
    (hz : its.size = ks.length) (room : ks.length + 1 < scanBound) (hq : ∀ hp tk, (∀ b o, b ≠ D → s.heap.get? b = some o → hp.get? b = some o) → Seen w hp D ks → T (.done (.ret .none)) { s with heap := hp, toks := tk }) :
    wpAny (model P w) B.in1 (Builtin.«set.__init__» ⟨[.ref D, .ref l], []⟩) T F1 s := by
  have hl0 := hl
  obtain ⟨⟨cl, di, da, sl⟩, e, c, n, d⟩ := hl
  simp only at c d
  subst c d
  have f1 := F.sub_list_set
  have f2 := F.sub_list_frozenset
  have f3 : (Value.type "list" == Value.type "dict") = false := by decide
  obtain ⟨hp, gn, dr, tk, os⟩ := s
  unfold Builtin.«set.__init__» noKeywords Builtin.Frozenset.updateFrom
  generalize hPI : pyIter = PI
  wp_walk
  subst hPI
  refine wpAny_pyIter_list hl0 (wpAny_bind (wpAny_runValue ?_))
  have lD : D < hp.objs.size := Heap.lt_size eD
  have ll : l < hp.objs.size := Heap.lt_size e
  refine seen_loop (fp := [hp.objs.size, l]) (Walks.list (by simpa using hh) _ l (Nat.ne_of_lt ll) its) (by simpa using ⟨Nat.ne_of_lt lD, hD⟩) (by simp) hz room hit ⟨⟨_, Heap.get?_push_size _ rfl, rfl, rfl⟩, hl0.push _⟩ (seen_bare (Heap.get?_push_of_some _ eD)) fun g tk' k seen => ?_
  refine wpAny_pure ?_
  exact wpAny_pure (hq g tk' (fun b o hb x => k b o hb (Nat.ne_of_lt (Heap.lt_size x)) (Heap.get?_push_of_some _ x)) seen)
/-- set(l), l a list of keys -/
theorem set_of_list {l : Addr} {its : Array Value} {ks : List Key} {Q : Value → Shared → Prop} (hh : A.handled = none) (hl : s.heap.IsList l its) (hit : ∀ (i : Nat) (v : Value), its[i]? = some v → ∃ k, ks[i]? = some k ∧ keyIs k v = true) (hz : its.size = ks.length) (room : ks.length + 1 < scanBound)
    (hq : ∀ hp tk, (∀ b o, s.heap.get? b = some o → hp.get? b = some o) → Seen w hp s.heap.objs.size ks → Q (.ref s.heap.objs.size) { s with heap := hp, toks := tk }) : wpAny (model P w) A (call (.type "set") [.ref l]) Q E s := by
  have lt : l < s.heap.objs.size := let ⟨o, e, _⟩ := hl; Heap.lt_size e
  have eD : (s.heap.push (bare w)).get? s.heap.objs.size = some (bare w) := Heap.get?_push_size _ rfl
  have tD : Shared.TypeIs { s with heap := s.heap.push (bare w) } (.ref s.heap.objs.size) "set" := ⟨_, eD, rfl⟩
  obtain ⟨c0, tl0, m0⟩ := F.called_set.mro
  have m1 := F.called_set.made
  have m2 := F.called_set.sub
  have m3 := F.called_set.notType
  have m4 := F.called_set.canCreate
  have m5 := F.typeCall_set_1 (.ref l)
  have m6 := F.called_set.init.lookup
  have m7 := F.called_set.init.bind (.ref s.heap.objs.size)
  refine wpAny_call (codeAny_of_tree (wpAny_pure ⟨Code.quiet_builtin _ (by decide +kernel), codeAny_builtin F.entry_type_call ?_⟩))
  rw [Around.under_plain (weight_type_call_type "set" [.ref l] []) rfl]
  repeat (any_goals (first | assumption | wp_step))
  refine codeAny_mono (code_set_led1 (.ref l) (E := E) (Q₁ := fun ob s₁ => ob = .ref s.heap.objs.size ∧ s₁ = { s with heap := s.heap.push (bare w) }) ⟨rfl, rfl⟩) fun r s₁ hr => ?_
  match r, hr with
  | .error e, hr => exact hr
  | .ok (.ret ob), hr =>
    obtain ⟨rfl, rfl⟩ := hr
    repeat (any_goals (first | assumption | wp_step))
    refine codeAny_mono (codeAny_call_builtin (R := wants (fun r s₂ => r = .none ∧ Q (.ref s.heap.objs.size) s₂) E) F.called_set.init.plain F.entry_set_init (check_set_init_1 tD (init_of_list (by simpa using hh) eD (hl.push _) (Nat.ne_of_gt lt) hit hz room fun hp tk k seen => ?_))) fun r₂ s₂ hr₂ => ?_
    · exact ⟨rfl, hq hp tk (fun b o x => k b o (Nat.ne_of_lt (Heap.lt_size x)) (Heap.get?_push_of_some _ x)) seen⟩
    · match r₂, hr₂ with
      | .error e, hr₂ => exact hr₂
      | .ok (.ret r), hr₂ =>
        obtain ⟨rfl, q⟩ := hr₂
        repeat (any_goals (first | assumption | wp_step))
end
def dedupK : List Key → List Key
  | [] => []
  | k :: ks => if memK ks k = true then dedupK ks else k :: dedupK ks
theorem dedupK_mem {j : Key} : ∀ {ks : List Key}, j ∈ dedupK ks ↔ j ∈ ks
  | [] => Iff.rfl
  | k :: ks => by
    unfold dedupK
    split
    · rename_i h
      rw [dedupK_mem, List.mem_cons]
      exact ⟨.inr, fun z => z.elim (fun e => e ▸ memK_iff.mp h) id⟩
    · rw [List.mem_cons, List.mem_cons, dedupK_mem]
theorem dedupK_nodup : ∀ {ks : List Key}, (dedupK ks).Nodup
  | [] => List.nodup_nil
  | k :: ks => by
    unfold dedupK
    split
    · exact dedupK_nodup
    · rename_i h
      exact List.nodup_cons.mpr ⟨fun z => h (memK_iff.mpr (dedupK_mem.mp z)), dedupK_nodup⟩
theorem perm_map_inv {α β : Type} {f : α → β} : ∀ {ls : List β} {es : List α}, ls.Perm (es.map f) → ∃ fs : List α, fs.Perm es ∧ ls = fs.map f
  | [], es, p => by
    have : es.map f = [] := List.Perm.nil_eq p |>.symm
    have : es = [] := by simpa using this
    subst this
    exact ⟨[], List.Perm.refl _, rfl⟩
  | x :: ls, es, p => by
    obtain ⟨e, he, hx⟩ := List.mem_map.mp (p.mem_iff.mp List.mem_cons_self)
    obtain ⟨s, t, rfl⟩ := List.append_of_mem he
    have p2 : (s ++ e :: t).Perm (e :: (s ++ t)) := List.perm_middle
    have p3 : (x :: ls).Perm (x :: (s ++ t).map f) := by
      have := p.trans (p2.map f)
      rw [List.map_cons, hx] at this
      exact this
    obtain ⟨fs, q1, q2⟩ := perm_map_inv p3.cons_inv
    exact ⟨e :: fs, (q1.cons e).trans p2.symm, by rw [List.map_cons, hx, q2]⟩
/-! ### sorted(set) -/
theorem toks_keyD {a b : Key} (h : PySem.W.keyToks (keyD a) = PySem.W.keyToks (keyD b)) : a = b := by
  cases a with
  | inl i => cases b with
    | inl j => simp only [keyD, PySem.W.keyToks] at h; simpa using h
    | inr y => simp [keyD, PySem.W.keyToks] at h
  | inr x => cases b with
    | inl j => simp [keyD, PySem.W.keyToks] at h
    | inr y =>
      simp only [keyD, PySem.W.keyToks] at h
      have : x.cps.toList = y.cps.toList := by simpa using h
      rw [PySem.W.str_of_cps this]
theorem dle_trans (a b c : PyData) (h1 : PySem.W.dataLe false id a b = true) (h2 : PySem.W.dataLe false id b c = true) : PySem.W.dataLe false id a c = true := by
  rw [PySem.W.dataLe_eq] at h1 h2 ⊢
  simp only [id, cond_false, Bool.not_eq_true'] at h1 h2 ⊢
  unfold PySem.W.dataLt at h1 h2 ⊢
  cases e : PyProof.Rows.lexLt itemOrd (PySem.W.keyToks c) (PySem.W.keyToks a) with
  | false => rfl
  | true =>
    exfalso
    cases e2 : PyProof.Rows.lexLt itemOrd (PySem.W.keyToks a) (PySem.W.keyToks b) with
    | true =>
      have := PyProof.Rows.lex_trans _ _ _ e e2
      rw [h2] at this
      cases this
    | false =>
      have := PyProof.Rows.lex_total _ _ h1 e2
      rw [this] at h2
      rw [h2] at e
      cases e
theorem dle_total (a b : PyData) : (PySem.W.dataLe false id a b || PySem.W.dataLe false id b a) = true := by
  rw [PySem.W.dataLe_eq]
  simp only [id, cond_false]
  unfold PySem.W.dataLt
  cases e : PyProof.Rows.lexLt itemOrd (PySem.W.keyToks b) (PySem.W.keyToks a) with
  | false => rfl
  | true =>
    cases e2 : PyProof.Rows.lexLt itemOrd (PySem.W.keyToks a) (PySem.W.keyToks b) with
    | false => rfl
    | true =>
      have := PyProof.Rows.lex_trans _ _ _ e e2
      rw [PyProof.Rows.lex_irrefl] at this
      cases this
theorem sort_perm {ks ls : List Key} (p : ks.Perm ls) : sortP (ks.map keyD) = sortP (ls.map keyD) := by
  unfold sortP
  have s1 := List.pairwise_mergeSort dle_trans dle_total (ks.map keyD)
  have s2 := List.pairwise_mergeSort dle_trans dle_total (ls.map keyD)
  have pp : ((ks.map keyD).mergeSort (PySem.W.dataLe false id)).Perm ((ls.map keyD).mergeSort (PySem.W.dataLe false id)) := (List.mergeSort_perm _ _).trans ((p.map keyD).trans (List.mergeSort_perm _ _).symm)
  refine pp.eq_of_pairwise (fun a b ha hb h1 h2 => ?_) s1 s2
  obtain ⟨x, _, rfl⟩ := List.mem_map.mp ((List.mergeSort_perm _ _).mem_iff.mp ha)
  obtain ⟨y, _, rfl⟩ := List.mem_map.mp ((List.mergeSort_perm _ _).mem_iff.mp hb)
  rw [PySem.W.dataLe_eq] at h1 h2
  simp only [id, cond_false, Bool.not_eq_true'] at h1 h2
  unfold PySem.W.dataLt at h1 h2
  rw [toks_keyD (PyProof.Rows.lex_total _ _ h2 h1)]
theorem depth_all {n : Nat} : ∀ {ds : List PyData}, (∀ d ∈ ds, d.depth ≤ n) → PyData.depthAll ds ≤ n
  | [], _ => by rw [PyData.depthAll]; exact Nat.zero_le _
  | d :: ds, h => by
    rw [PyData.depthAll]
    exact Nat.max_le.mpr ⟨h d List.mem_cons_self, depth_all fun e he => h e (List.mem_cons_of_mem _ he)⟩
theorem sortOk_mem {ds es : List PyData} (h : ∀ d, d ∈ ds → d ∈ es) (ok : sortOk es = true) : sortOk ds = true := by
  unfold sortOk alikeB at ok ⊢
  rw [Bool.and_eq_true, Bool.and_eq_true] at ok ⊢
  obtain ⟨⟨h1, h2⟩, h3⟩ := ok
  refine ⟨⟨?_, ?_⟩, ?_⟩
  · rw [List.all_eq_true] at h1 ⊢
    intro d hd
    have := h1 d (h d hd)
    rw [List.all_eq_true] at this ⊢
    exact fun e he => this e (h e he)
  · rcases Bool.or_eq_true_iff.mp h2 with z | z
    · refine Bool.or_eq_true_iff.mpr (.inl ?_)
      rw [List.all_eq_true] at z ⊢
      exact fun d hd => z d (h d hd)
    · refine Bool.or_eq_true_iff.mpr (.inr ?_)
      rw [List.all_eq_true] at z ⊢
      exact fun d hd => z d (h d hd)
  · have z := of_decide_eq_true h3
    exact decide_eq_true (depth_all fun d hd => Nat.le_trans (depth_le (h d hd)) z)
theorem each_out {K : PySem.W.Frag} {H : Hp} : ∀ {us : List Value} {ds : List PyData}, PySem.W.EachIs (fun u d => ∃ k, d = keyD k ∧ keyIs k u = true) us ds → ∃ vs, Vals vs us ∧ DenL K H ds vs
  | _, _, .nil => ⟨[], .nil, DenL.nil⟩
  | _, _, .cons ⟨k, e, hk⟩ t => by
    obtain ⟨vs, h1, h2⟩ := each_out t
    subst e
    exact ⟨kV k :: vs, .cons (keyIs_rel hk) h1, DenL.cons (by cases k <;> (unfold keyD Den; rfl)) h2⟩
theorem Seen.perm {w : World} {hp : Heap} {a : Addr} {ks : List Key} (x : Seen w hp a ks) : ∃ o es ep t, hp.get? a = some o ∧ o.ExactSet ∧ o.data = .set es ep t ∧ Good w es t ∧ (∀ e ∈ es.toList, KE1 w e) ∧ (es.toList.map keyE).Perm (dedupK ks) ∧ es.size ≤ ks.length := by
  obtain ⟨cs, ⟨l, ⟨o, es, ep, t, e, ex, d, p, g⟩, gl, rfl⟩, nd, mem, le⟩ := x
  have z : es.size = l.length := by have := p.length_eq; rwa [Array.length_toList] at this
  refine ⟨o, es, ep, t, e, ex, d, g, fun c hc => gl c (p.mem_iff.mp hc), (p.map keyE).trans ((List.perm_ext_iff_of_nodup nd dedupK_nodup).mpr fun j => (mem j).trans dedupK_mem.symm), ?_⟩
  rw [List.length_map] at le
  omega
/-- the set of these keys at a, in the abstract heap -/
def SetKO (w : World) (a : Addr) (ks : List Key) : HO := .ext fun h => Seen w h a ks
theorem setKO_ok {P : Program} {w : World} {H : Hp} {h : Heap} {a : Addr} {ks : List Key} (R : Seen w h a ks) : ObjOk P w H h a (SetKO w a ks) :=
  ⟨R, let ⟨o, _, _, _, e, _⟩ := R.perm; ⟨o, e⟩, fun _ _ R1 k => R1.keep k⟩
section
variable {X : Cx} {pins : List (Addr × Obj)} {σ : St} {H : Hp} {s : Shared} {a : Addr} {ks : List Key}
theorem setKO_at (I : Inv X pins σ H s) (e : H a = some (SetKO X.w a ks)) : Seen X.w s.heap a ks := (I.hok a _ e).1
/-- set(list) -/
theorem cr_setL (hc : X.calm = true) : CallR X (.type "set") (fun xs H Q => ∃ (l : Addr) (ks : List Key), xs = [V.ref l] ∧ SqL X.K H l (ks.map kV) ∧ ks.length + 1 < scanBound ∧ ∀ a, H a = none → Q (.ref a) (upd H a (SetKO X.w a ks))) := by
  intro pins s σ H vs us Q I r h
  obtain ⟨l, ks, rfl, hs, room, q⟩ := h
  rw [Vals.ref1 r]
  obtain ⟨its, rv, p, hz⟩ := I.list hs
  have len : its.length = ks.length := by rw [← rv.length, List.length_map]
  refine set_of_list (I.ok.hd hc) p.isList (fun i v hv => ?_) (by rw [List.size_toArray, len]) room fun hp tk k seen => ⟨.ref s.heap.objs.size, _, I.laid (t' := tk) k (Nat.le_refl _) (setKO_ok seen), rfl, q _ (I.hok.fresh (Nat.le_refl _))⟩
  have hv : its[i]? = some v := by simpa using hv
  have hi : i < ks.length := len ▸ lt_of_get hv
  obtain ⟨u, hu, ru⟩ := rv.get (i := i) (x := kV ks[i]) (by rw [List.getElem?_map, List.getElem?_eq_getElem hi]; rfl)
  rw [hv] at hu
  cases hu
  exact ⟨ks[i], List.getElem?_eq_getElem hi, kV_is (P := X.prog) (w := X.w) ru⟩
/-- len(set) -/
theorem cr_lenS : CallR X (.builtin "len") (fun xs H Q => ∃ (a : Addr) (ks : List Key), xs = [V.ref a] ∧ H a = some (SetKO X.w a ks) ∧ ks.length + 1 < scanBound ∧ Q (.int ((dedupK ks).length : Nat)) H) := by
  intro pins s σ H vs us Q I r h
  obtain ⟨a, ks, rfl, ha, room, q⟩ := h
  rw [Vals.ref1 r]
  obtain ⟨o, es, ep, t, e, ex, d, g, gl, p, le⟩ := (setKO_at I ha).perm
  have z : es.size = (dedupK ks).length := by rw [← p.length_eq, List.length_map, Array.length_toList]
  have small : (es.size : Int) < 2 ^ 63 := by unfold scanBound at room; omega
  refine call_len_set e ex d g.fit small ?_
  rw [z]
  exact ⟨.int _, H, I.tok _, ⟨_, rfl⟩, q⟩
theorem ents_keys {w : World} : ∀ {es : List (Int × Value)}, (∀ e ∈ es, KE1 w e) → PySem.W.EachIs (fun u d => ∃ k, d = keyD k ∧ keyIs k u = true) (es.map (·.2)) ((es.map keyE).map keyD)
  | [], _ => .nil
  | e :: es, g => .cons (let ⟨k, h, _⟩ := g e List.mem_cons_self; ⟨keyE e, rfl, (keyE_of h).symm ▸ h⟩) (ents_keys fun c hc => g c (List.mem_cons_of_mem _ hc))
/-- sorted(set) -/
theorem cr_sortedS (hc : X.calm = true) (hu : X.A.units + 200 < cLine) : CallR X (.builtin "sorted") (fun xs H Q => ∃ (a : Addr) (ks : List Key), xs = [V.ref a] ∧ H a = some (SetKO X.w a ks) ∧ ks.length + 1 < scanBound ∧ sortOk ((dedupK ks).map keyD) = true ∧
    ∀ p vs, H p = none → DenL X.K H (sortP ((dedupK ks).map keyD)) vs → Q (.ref p) (upd H p (.lst vs))) := by
  intro pins s σ H vs us Q I r h
  obtain ⟨a, ks, rfl, ha, room, ok, q⟩ := h
  rw [Vals.ref1 r]
  obtain ⟨o, es, ep, t, e, ex, d, g, gl, p, le⟩ := (setKO_at I ha).perm
  have sm : es.size < scanBound := by omega
  refine Calls.call_function_entry kind_sorted plain_sorted entry_sorted (args_sorted1 _) ?_
  unfold Builtin.«sorted»
  refine wpAny_bind (m := checkCount "sorted" 1 1 _) (wpAny_pure (wpAny_bind (collect_set (A := X.A.in1) (I.ok.hd hc) ⟨o, e, ex.1, d⟩ g.fit sm g.up g.led fun s1 got k1 big eg eo pg => ?_)))
  obtain ⟨fs, pf, rfl⟩ := perm_map_inv pg
  have pk : (fs.map keyE).Perm (dedupK ks) := (pf.map keyE).trans p
  have len : fs.length ≤ sizeLine := by
    rw [pf.length_eq, Array.length_toList]
    exact fits_of_scanBound sm
  obtain ⟨c1, c2, c3⟩ := sort_conds (sortOk_mem (fun d hd => (pk.map keyD).mem_iff.mp hd) ok)
  have is := ents_keys fun c hc => gl c (pf.mem_iff.mp hc)
  have at0 : (s1.heap.push (seqObj "list" (fs.map (·.2)).toArray 0)).get? s1.heap.objs.size = some (seqObj "list" (fs.map (·.2)).toArray 0) := Heap.get?_push_size _ rfl
  have rd : PySem.W.EachIs (fun u d => ∃ as, Reads (s1.heap.push (seqObj "list" (fs.map (·.2)).toArray 0)) u (id d) as ∧ s1.heap.objs.size ∉ as) (fs.map (·.2)) ((fs.map keyE).map keyD) := is.mono fun u d ⟨k, ed, hk⟩ => by
    subst ed
    rcases keyIs_shape hk with ⟨i, t, rfl, rfl⟩ | ⟨x, t, rfl, rfl⟩
    · exact ⟨[], .int _ _, by simp⟩
    · exact ⟨[], .str _ _, by simp⟩
  refine wpAny_bind (wpAny_newList (wpAny_bind (wpAny_holding (PySem.W.list_sort_data (A := X.A.in1) (enc := id) at0 is rd c1 c2 (by rw [List.length_map, List.length_map]; exact len) (fun d hd => by have := c3 d hd; show X.A.units + 1 + 1 + d.depth < cLine; omega) fun out ol oe => ?_))) (by rw [List.length_map]; exact len))
  · rw [show (((fs.map keyE).map keyD).mergeSort (PySem.W.dataLe false id)) = sortP ((dedupK ks).map keyD) from sort_perm pk] at oe
    obtain ⟨ws, rw', dw⟩ := each_out (K := X.K) (H := H) oe
    obtain ⟨c, hcx⟩ := sortedHeap_at (vs := fs.map (·.2)) (out := out.toArray) at0
    have free : H s1.heap.objs.size = none := I.hok.fresh big
    have wl : ws.length ≤ sizeLine := by rw [rw'.length, ol, List.length_map, List.length_map]; exact len
    have old : ∀ b u, s.heap.get? b = some u → (sortedHeap (s1.heap.push (seqObj "list" (fs.map (·.2)).toArray 0)) s1.heap.objs.size (fs.map (·.2)) out.toArray).get? b = some u := fun b u hb => by
      have lt := Heap.lt_size (k1 b u hb)
      rw [sortedHeap_old (Nat.ne_of_lt lt) (by rw [size_push']; exact Nat.lt_succ_of_lt lt)]
      exact Heap.get?_push_of_some _ (k1 b u hb)
    obtain ⟨h1, g1, d1, t1, o1⟩ := s1
    obtain ⟨h0, g0, d0, t0, o0⟩ := s
    obtain rfl : g1 = g0 := eg
    obtain rfl : o1 = o0 := eo
    have J : Inv X pins σ (upd H h1.objs.size (.lst ws)) { (⟨h0, g1, d0, t0, o1⟩ : Shared) with heap := sortedHeap (h1.push (seqObj "list" (fs.map (·.2)).toArray 0)) h1.objs.size (fs.map (·.2)) out.toArray, gens := g1, drawn := d1, toks := t1 } :=
      I.call (ch := []) (Un.laid old big free) (I.hok.laid old big ⟨wl, out, c, rw', hcx⟩) I.bare fun _ z => nomatch z
    exact wpAny_pure ⟨_, rfl, .ref h1.objs.size, _, J, rfl, q _ ws free dw⟩
end
end L2.HL

set_option maxHeartbeats 8000000
/-! dicts as a whole: list(d), list(d.values()), sorted(d), d.items(); sets of a list -/
namespace L2.HL
open PySem PySem.Spec PyProof.Rows
section
variable {X : Cx} {G : Gh} {W : WX} {pins : List (Addr × Obj)} {σ : St} {H : Hp} {s : Shared} {a : Addr} {kvs : List (PyData × PyData)}
theorem denk_get {K : PySem.W.Frag} : ∀ {kvs : List (PyData × PyData)} {ks : List (Key × V)}, DenK K H kvs ks → ∀ (i : Nat) (k d : PyData), kvs[i]? = some (k, d) → ∃ q v, ks[i]? = some (q, v) ∧ k = keyD q ∧ Den K H d v
  | [], ks, h, i, k, d, e => by simp at e
  | (k0, d0) :: r, ks, h, i, k, d, e => by
    unfold DenK at h
    obtain ⟨k', v, s', e1, e2, h1, h2⟩ := h
    subst e1
    cases i with
    | zero =>
      simp at e
      obtain ⟨rfl, rfl⟩ := e
      exact ⟨k', v, rfl, e2, h1⟩
    | succ i => exact denk_get h2 i k d (by simpa using e)
theorem dent_get {K : PySem.W.Frag} : ∀ {kvs : List (PyData × PyData)} {ks : List (List Key × V)}, DenT K H kvs ks → ∀ (i : Nat) (k d : PyData), kvs[i]? = some (k, d) → ∃ q v, ks[i]? = some (q, v) ∧ k = .tuple (q.map keyD) ∧ Den K H d v
  | [], ks, h, i, k, d, e => by simp at e
  | (k0, d0) :: r, ks, h, i, k, d, e => by
    unfold DenT at h
    obtain ⟨k', v, s', e1, e2, h1, h2⟩ := h
    subst e1
    cases i with
    | zero =>
      simp at e
      obtain ⟨rfl, rfl⟩ := e
      exact ⟨k', v, rfl, e2, h1⟩
    | succ i => exact dent_get h2 i k d (by simpa using e)
/-- what the entries of a dict's object are -/
def Ents (K : PySem.W.Frag) (H : Hp) (kvs : List (PyData × PyData)) (es : Array DictEntry) : Prop := es.size = kvs.length ∧ ∀ (i : Nat) (k d : PyData), kvs[i]? = some (k, d) → ∃ en kx vx, es[i]? = some en ∧ RelV kx en.key ∧ Den K H k kx ∧ RelV vx en.val ∧ Den K H d vx
theorem den_keyD {K : PySem.W.Frag} (k : Key) : Den K H (keyD k) (kV k) := by cases k <;> (unfold keyD Den; rfl)
theorem ents_of (I : Inv X pins σ H s) (h : DicR X.K H a kvs) : (a == sysModules) = false ∧ kvs.length ≤ sizeLine ∧ ∃ es ep, s.heap.DictRaw a es ep ∧ Ents X.K H kvs es := by
  rcases h with ⟨ks, h1, h2⟩ | ⟨ks, h1, h2⟩
  · obtain ⟨z, hs, vs, rel, dd⟩ := dk_rd I.hok h1
    obtain ⟨es, ep, raw, hz, he⟩ := dd.raw
    have l1 := h2.length
    have l2 : ks.length = vs.length := Paired.length rel
    refine ⟨hs, by rw [l1]; exact z, es, ep, raw, by omega, fun i k d e => ?_⟩
    obtain ⟨q, v, e1, e2, e3⟩ := denk_get h2 i k d e
    obtain ⟨u, hu, ru⟩ := kv_get rel e1
    have hi : i < es.size := by rw [hz]; exact lt_of_get hu
    obtain ⟨g1, g2⟩ := he i hi q u hu
    exact ⟨es[i], kV q, v, Array.getElem?_eq_getElem hi, keyIs_rel g1, by rw [e2]; exact den_keyD q, by rw [g2]; exact ru, e3⟩
  · obtain ⟨z, hs, xs, pr, o, es, ep, ho, hx, hdt, he, hn⟩ := (show ObjOk X.prog X.w H s.heap a (.dT ks) from h1.ok I.hok)
    have l1 := h2.length
    have l2 : es.size = xs.length := size_of_entries he
    have l3 : ks.length = xs.length := Paired.length pr
    refine ⟨hs, by rw [l1]; exact z, es, ep, ⟨o, ho, hx, hdt⟩, by omega, fun i k d e => ?_⟩
    obtain ⟨q, v, e1, e2, e3⟩ := dent_get h2 i k d e
    obtain ⟨b, hb, f1, f2, f3⟩ := paired_get pr e1
    have qe := entry_at he i
    rw [hb] at qe
    refine ⟨_, .ref b.2.1, v, qe, rfl, ?_, f3, e3⟩
    rw [e2]
    unfold Den
    exact ⟨b.2.1, _, rfl, .inl f2, den_keys q⟩
theorem DicR.den {K : PySem.W.Frag} {H' : Hp} (p : Pers H H') (h : DenD K H kvs (.ref a)) : DicR K H' a kvs := by
  obtain ⟨a', e, ⟨o, ks, h1, h2⟩ | ⟨o, ks, h1, h2⟩⟩ := h
  · cases e; exact .inl ⟨ks, .inr ⟨o, p.2 _ _ _ h1⟩, DenK.pers p _ _ h2⟩
  · cases e; exact .inr ⟨ks, .inr ⟨o, p.2 _ _ _ h1⟩, DenT.pers p _ _ h2⟩
/-- values read off by place -/
theorem vals_get {K : PySem.W.Frag} : ∀ {ds : List PyData} {us : List Value}, ds.length = us.length → (∀ (i : Nat) (d : PyData) (u : Value), ds[i]? = some d → us[i]? = some u → ∃ v, RelV v u ∧ Den K H d v) → ∃ vs, Vals vs us ∧ DenL K H ds vs
  | [], us, hl, h => by
    have : us = [] := List.eq_nil_of_length_eq_zero (by simpa using hl.symm)
    subst this
    exact ⟨[], .nil, DenL.nil⟩
  | d :: ds, [], hl, h => by simp at hl
  | d :: ds, u :: us, hl, h => by
    obtain ⟨v, r, dv⟩ := h 0 d u rfl rfl
    obtain ⟨vs, h1, h2⟩ := vals_get (ds := ds) (us := us) (by simpa using hl) fun i d u e1 e2 => h (i + 1) d u (by simpa using e1) (by simpa using e2)
    exact ⟨v :: vs, .cons r h1, DenL.cons dv h2⟩
/-- list(d) -/
theorem call_listD (hc : X.calm = true) (I : Inv X pins σ H s) (h : DicR X.K H a kvs) {Q : VK} (q : ∀ p vs, H p = none → DenL X.K H (kvs.map (·.1)) vs → Q (.ref p) (upd H p (.lst vs))) : wpAny (model X.prog X.w) X.A (call (.type "list") [.ref a]) (EP X pins σ Q) X.xe s := by
  obtain ⟨hs, hz, es, ep, raw, en, he⟩ := ents_of I h
  refine PySem.W.kdl_call (PySem.KdlSrc.rawDict hs) (I.ok.hd hc) raw (by rw [en]; exact hz) fun h' tk acc' c' kp e it => ?_
  obtain ⟨vs, rv, dv⟩ := vals_get (K := X.K) (H := H) (ds := kvs.map (·.1)) (us := acc'.toList) (by have z1 := it.1; simp only [List.length_map, Array.length_toList]; omega) fun i d u e1 e2 => by
    rw [List.getElem?_map] at e1
    obtain ⟨⟨k, d'⟩, e3, e4⟩ := Option.map_eq_some_iff.mp e1
    obtain ⟨hi, hv⟩ := it.2 i u (by rw [← Array.getElem?_toList]; exact e2)
    obtain ⟨ent, kx, vx, g1, g2, g3, g4, g5⟩ := he i k d' e3
    rw [Array.getElem?_eq_getElem hi] at g1
    cases g1
    subst e4
    exact ⟨kx, by rw [hv]; exact g2, g3⟩
  have hn : H s.heap.objs.size = none := I.hok.fresh (Nat.le_refl _)
  exact ⟨.ref s.heap.objs.size, _, I.laid (t' := tk) kp (Nat.le_refl _) (show ObjOk X.prog X.w (upd H s.heap.objs.size (.lst vs)) h' s.heap.objs.size (.lst vs) from ⟨by rw [← dv.length, List.length_map]; exact hz, acc'.toList, c', rv, by rw [Array.toArray_toList]; exact e⟩), rfl, q _ vs hn dv⟩
/-- d.values() -/
def ViewO (r a : Addr) : HO := .ext fun h => h.IsValuesView r a
def tVals (K : PySem.W.Frag) (te : TE) : TE := fun σ H Q => te σ H fun x H1 => ∃ a kvs, x = .ref a ∧ DicR K H1 a kvs ∧ ∀ r, H1 r = none → Q (.ref r) (upd H1 r (ViewO r a))
theorem pe_vals {e : Expr} {te : TE} {apos cpos : Pos} (he : PE X e te) (hbase : attributeBase e "values" X.env (eval e X.env) = eval e X.env := by rfl) (hline : (apos.endLine == cpos.line) = true := by rfl) : PE X (.Call (.Attribute e "values" apos) [] [] cpos) (tVals X.K te) := by
  refine ⟨fun pins s σ H Q I h => ?_⟩
  refine wpAny_Call_method (T := "dict") (id := "dict.values") hbase rfl hline F.plainAttrs_dict F.slot_dict_values F.type_dict_values (thn (he.run pins s σ H _ I h) fun u s1 ⟨x, H1, I1, rx, a, kvs, ex, hd, q⟩ => ?_)
  subst ex
  obtain rfl : u = Value.ref a := rx
  obtain ⟨hs, hz, es, ep, raw, en⟩ := ents_of I1 hd
  obtain ⟨o, ho, hx, hdt⟩ := id raw
  refine ⟨raw.typeIs, fun b e => ?_, ?_⟩
  · cases e
    exact ⟨o, ho, hx.2.1⟩
  show wpAny _ _ (callWith cpos (.builtin "dict.values") [.ref a] [] []) _ X.xe s1
  have iv : (s1.heap.push { cls := .type "dict_values", data := .fields #[.ref a] }).IsValuesView s1.heap.objs.size a := ⟨_, Heap.get?_push_size _ rfl, rfl, rfl⟩
  refine method_meetsIn F.slot_dict_values F.entry_dict_values rfl (PySem.evalArgs_none ⟨rfl, raw.typeIs, F.args_dict_values_1 _, _, meets_dict_values_raw a hs, ⟨⟨es, ep, raw⟩, ?_⟩⟩)
  refine ⟨.ref s1.heap.objs.size, _, I1.laid (t' := s1.toks) (fun b o e => Heap.get?_push_of_some _ e) (Nat.le_refl _) ?_, rfl, q _ (I1.hok.fresh (Nat.le_refl _))⟩
  exact ⟨iv, ⟨_, Heap.get?_push_size _ rfl⟩, fun h1 h2 ⟨o, e1, e2, e3⟩ k => ⟨o, k o e1, e2, e3⟩⟩
/-- list(view) -/
theorem call_listV {r : Addr} (hc : X.calm = true) (I : Inv X pins σ H s) (hr : H r = some (ViewO r a)) (h : DicR X.K H a kvs) {Q : VK} (q : ∀ p vs, H p = none → DenL X.K H (kvs.map (·.2)) vs → Q (.ref p) (upd H p (.lst vs))) : wpAny (model X.prog X.w) X.A (call (.type "list") [.ref r]) (EP X pins σ Q) X.xe s := by
  obtain ⟨hs, hz, es, ep, raw, en, he⟩ := ents_of I h
  have hv : s.heap.IsValuesView r a := (I.hok r _ hr).1
  refine PySem.W.kdl_call PySem.KdlSrc.rawValues (I.ok.hd hc) ⟨hv, raw⟩ (by rw [en]; exact hz) fun h' tk acc' c' kp e it => ?_
  obtain ⟨vs, rv, dv⟩ := vals_get (K := X.K) (H := H) (ds := kvs.map (·.2)) (us := acc'.toList) (by have z1 := it.1; simp only [List.length_map, Array.length_toList]; omega) fun i d u e1 e2 => by
    rw [List.getElem?_map] at e1
    obtain ⟨⟨k, d'⟩, e3, e4⟩ := Option.map_eq_some_iff.mp e1
    obtain ⟨hi, hv⟩ := it.2 i u (by rw [← Array.getElem?_toList]; exact e2)
    obtain ⟨ent, kx, vx, g1, g2, g3, g4, g5⟩ := he i k d' e3
    rw [Array.getElem?_eq_getElem hi] at g1
    cases g1
    subst e4
    exact ⟨vx, by rw [hv]; exact g4, g5⟩
  have hn : H s.heap.objs.size = none := I.hok.fresh (Nat.le_refl _)
  exact ⟨.ref s.heap.objs.size, _, I.laid (t' := tk) kp (Nat.le_refl _) (show ObjOk X.prog X.w (upd H s.heap.objs.size (.lst vs)) h' s.heap.objs.size (.lst vs) from ⟨by rw [← dv.length, List.length_map]; exact hz, acc'.toList, c', rv, by rw [Array.toArray_toList]; exact e⟩), rfl, q _ vs hn dv⟩
theorem cr_listView (hc : X.calm = true) : CallR X (.type "list") (fun xs H Q => ∃ (r a : Addr) (kvs : List (PyData × PyData)), xs = [V.ref r] ∧ H r = some (ViewO r a) ∧ DicR X.K H a kvs ∧ ∀ p vs, H p = none → DenL X.K H (kvs.map (·.2)) vs → Q (.ref p) (upd H p (.lst vs))) := by
  intro pins s σ H vs us Q I r h
  obtain ⟨v, a, kvs, rfl, hr, hd, q⟩ := h
  rw [Vals.ref1 r]
  exact call_listV hc I hr hd q
def listF2 : List Vl → Option Vl
  | [.dic kvs] => some (.dat (.list (kvs.map (·.1))))
  | xs => listF xs
theorem cl_list2 (hc : X.calm = true) : CallR X (.type "list") (rL X listF2 G) := by
  intro pins s σ H vs us Q I r h
  obtain ⟨xs, z, ab, hf, q⟩ := h
  unfold listF2 at hf
  split at hf
  · cases hf
    obtain ⟨v, rfl, hd⟩ := ab.one
    obtain ⟨a, e1, dr⟩ := hd.dic
    subst e1
    rw [Vals.ref1 r]
    exact call_listD hc I dr fun p vs hp dv => q _ _ (same_new hp) (DN.lst hp dv)
  · exact cl_list pins s σ H vs us Q I r ⟨xs, z, ab, hf, q⟩
variable {e : Expr} {u : EF}
/-- list(e.values()) -/
def valsV : Vl → Option Vl
  | .dic kvs => some (.dat (.list (kvs.map (·.2))))
  | _ => none
def fU (F : Vl → Option Vl) (u : EF) : EF := fun ρ S => (u ρ S).bind fun x S1 => ofO (F x) S1
theorem DicR.same {K : PySem.W.Frag} {H' : Hp} (sm : Same H H') (h : DicR K H a kvs) : DicR K H' a kvs := by
  have p := Same.pers sm
  rcases h with ⟨ks, h1, h2⟩ | ⟨ks, h1, h2⟩
  · refine .inl ⟨ks, ?_, DenK.pers p _ _ h2⟩
    rcases h1 with h1 | ⟨o, h1⟩
    · exact .inl (sm _ _ h1)
    · exact .inr ⟨o, sm _ _ h1⟩
  · refine .inr ⟨ks, ?_, DenT.pers p _ _ h2⟩
    rcases h1 with h1 | ⟨o, h1⟩
    · exact .inl (sm _ _ h1)
    · exact .inr ⟨o, sm _ _ h1⟩
theorem Same.trans' {H1 H2 H3 : Hp} (a : Same H1 H2) (b : Same H2 H3) : Same H1 H3 := fun x o h => b x o (a x o h)
theorem none_same {H1 H2 : Hp} (a : Same H1 H2) {p : Addr} (h : H2 p = none) : H1 p = none := by
  cases z : H1 p with
  | none => rfl
  | some o => rw [a p o z] at h; cases h
theorem DN.lst2 {H1 H2 : Hp} {p : Addr} {ds : List PyData} {xs : List V} (sm : Same H1 H2) (hp : H2 p = none) (hd : DenL X.K H2 ds xs) : DN X.km G H1 (upd H2 p (.lst xs)) (.dat (.list ds)) (.ref p) :=
  .inl ⟨rfl, p, rfl, none_same sm hp, xs, upd_same, DenL.pers (Same.pers (same_new hp)) _ _ hd⟩
theorem dListVals {p apos cpos pos : Pos} (he : DV X G W e u) (hc : X.calm = true) (hm : X.mg "list" = none) (hg : Gl X "list" := by rfl) (hbase : attributeBase e "values" X.env (eval e X.env) = eval e X.env := by rfl) (hline : (apos.endLine == cpos.line) = true := by rfl)
    (hst : starEach [.Call (.Attribute e "values" apos) [] [] cpos] X.env = (false, eval (.Call (.Attribute e "values" apos) [] [] cpos) X.env) :: starEach [] X.env := by rfl) (hpl : (backTo pos (starEach [] X.env)).any (·.1) = false := by rfl) :
    DO X G W (.Call (.Name "list" p) [.Call (.Attribute e "values" apos) [] [] cpos] [] pos) (fU valsV u) :=
  PE.weak (pe_callTy (T := "list") (cr_listView hc) hg hm PyProof.Rows.Boot.«list» (pa_cons (pe_vals he hbase hline) pa_nil hst) (by decide) (by decide) hst hpl) fun σ H Q q => by
    show TR DB X.km G W u σ H _
    refine TR.of (TG1.bind ups_dn q.g fun ρ x v S S1 H1 eo eo1 e1 r1 q1 => ?_)
    unfold valsV at q1
    split at q1
    · obtain ⟨a, ev, dr⟩ := DB.dic r1
      refine ⟨a, _, ev, dr, fun r hr => ⟨r, a, _, rfl, upd_same, dr.same (same_new hr), fun p vs hp dv => ?_⟩⟩
      exact q1.put eo1.src (Same.trans' (same_new hr) (same_new hp)) (DN.lst2 (same_new hr) hp dv)
    · exact q1.elim
/-! ### sorted(set(e)), len(set(e)) -/
def setKs : Vl → Option (List Key)
  | .dat (.list ds) => match flatKs ds with
    | some ks => if ks.length + 1 < scanBound then some ks else none
    | none => none
  | _ => none
def sortSetV (x : Vl) : Option Vl := match setKs x with
  | some ks => if sortOk ((dedupK ks).map keyD) = true then some (.dat (.list (sortP ((dedupK ks).map keyD)))) else none
  | none => none
def lenSetV (x : Vl) : Option Vl := match setKs x with
  | some ks => some (.dat (.int ((dedupK ks).length : Nat)))
  | none => none
theorem setKs_of {x : Vl} {v : V} {ks : List Key} {H0 : Hp} (h : DB X.km G H0 H x v) (e : setKs x = some ks) : ∃ l, v = .ref l ∧ Rd H l (.lst (ks.map kV)) ∧ ks.length + 1 < scanBound := by
  unfold setKs at e
  split at e
  · split at e
    · rename_i ks' hk
      split at e
      · rename_i hz
        cases e
        obtain ⟨l, xs, e1, r1, d1⟩ := h.list
        rw [flatKs_of hk] at d1
        have := DenL.keys d1
        subst this
        exact ⟨l, e1, r1, hz⟩
      · cases e
    · cases e
  · cases e
theorem dSortSet {p p2 q pos : Pos} (he : DV X G W e u) (hc : X.calm = true) (hu : X.A.units + 200 < cLine) (hm : X.mg "sorted" = none) (hm2 : X.mg "set" = none) (hg : Gl X "sorted" := by rfl) (hg2 : Gl X "set" := by rfl)
    (hst : starEach [.Call (.Name "set" p2) [e] [] q] X.env = (false, eval (.Call (.Name "set" p2) [e] [] q) X.env) :: starEach [] X.env := by rfl) (hst2 : starEach [e] X.env = (false, eval e X.env) :: starEach [] X.env := by rfl)
    (hpl : (backTo pos (starEach [] X.env)).any (·.1) = false := by rfl) (hpl2 : (backTo q (starEach [] X.env)).any (·.1) = false := by rfl) :
    DO X G W (.Call (.Name "sorted" p) [.Call (.Name "set" p2) [e] [] q] [] pos) (fU sortSetV u) :=
  PE.weak (pe_callB (id := "sorted") (cr_sortedS hc hu) hg hm PyProof.Rows.Boot.«sorted» (pa_cons (pe_callTy (T := "set") (cr_setL hc) hg2 hm2 PyProof.Rows.Boot.«set» (pa_cons he pa_nil hst2) (by decide) (by decide) hst2 hpl2) pa_nil hst) (by decide) (by decide) hst hpl) fun σ H Q q => by
    show TR DB X.km G W u σ H _
    refine TR.of (TG1.bind ups_dn q.g fun ρ x v S S1 H1 eo eo1 e1 r1 q1 => ?_)
    unfold sortSetV at q1
    split at q1
    · rename_i ks hk
      split at q1
      · rename_i ok
        obtain ⟨l, ev, rd, hz⟩ := setKs_of r1 hk
        subst ev
        refine ⟨l, ks, rfl, .inl rd, hz, fun a ha => ?_⟩
        refine ⟨a, ks, rfl, upd_same, hz, ok, fun p vs hp dv => ?_⟩
        exact q1.put eo1.src (Same.trans' (same_new ha) (same_new hp)) (DN.lst2 (same_new ha) hp dv)
      · exact q1.elim
    · exact q1.elim
theorem dLenSet {p p2 q pos : Pos} (he : DV X G W e u) (hc : X.calm = true) (hm : X.mg "len" = none) (hm2 : X.mg "set" = none) (hg : Gl X "len" := by rfl) (hg2 : Gl X "set" := by rfl)
    (hst : starEach [.Call (.Name "set" p2) [e] [] q] X.env = (false, eval (.Call (.Name "set" p2) [e] [] q) X.env) :: starEach [] X.env := by rfl) (hst2 : starEach [e] X.env = (false, eval e X.env) :: starEach [] X.env := by rfl)
    (hpl : (backTo pos (starEach [] X.env)).any (·.1) = false := by rfl) (hpl2 : (backTo q (starEach [] X.env)).any (·.1) = false := by rfl) :
    DO X G W (.Call (.Name "len" p) [.Call (.Name "set" p2) [e] [] q] [] pos) (fU lenSetV u) :=
  PE.weak (pe_callB (id := "len") cr_lenS hg hm PyProof.Rows.Boot.«len» (pa_cons (pe_callTy (T := "set") (cr_setL hc) hg2 hm2 PyProof.Rows.Boot.«set» (pa_cons he pa_nil hst2) (by decide) (by decide) hst2 hpl2) pa_nil hst) (by decide) (by decide) hst hpl) fun σ H Q q => by
    show TR DB X.km G W u σ H _
    refine TR.of (TG1.bind ups_dn q.g fun ρ x v S S1 H1 eo eo1 e1 r1 q1 => ?_)
    unfold lenSetV at q1
    split at q1
    · rename_i ks hk
      obtain ⟨l, ev, rd, hz⟩ := setKs_of r1 hk
      subst ev
      exact ⟨l, ks, rfl, .inl rd, hz, fun a ha => ⟨a, ks, rfl, upd_same, hz, q1.put eo1.src (same_new ha) (Vl.i_dn _)⟩⟩
    · exact q1.elim
end
end L2.HL

set_option maxHeartbeats 8000000
/-! loops over d.values() and d.items() of a shared dict, whatever its keys are -/
namespace L2.HL
open PySem PySem.Spec PyProof.Rows
/-- a locked dict, its object o -/
def FzD (K : PySem.W.Frag) (H : Hp) (a : Addr) (o : Obj) (kvs : List (PyData × PyData)) : Prop := (∃ ks, H a = some (.frz o (.dK ks)) ∧ DenK K H kvs ks) ∨ ∃ ks, H a = some (.frz o (.dT ks)) ∧ DenT K H kvs ks
theorem FzD.pers {K : PySem.W.Frag} {H H' : Hp} {a : Addr} {o : Obj} {kvs : List (PyData × PyData)} (p : Pers H H') (h : FzD K H a o kvs) : FzD K H' a o kvs := by
  rcases h with ⟨ks, e, d⟩ | ⟨ks, e, d⟩
  · exact .inl ⟨ks, p.2 _ _ _ e, DenK.pers p _ _ d⟩
  · exact .inr ⟨ks, p.2 _ _ _ e, DenT.pers p _ _ d⟩
theorem FzD.dicR {K : PySem.W.Frag} {H : Hp} {a : Addr} {o : Obj} {kvs : List (PyData × PyData)} (h : FzD K H a o kvs) : DicR K H a kvs := by
  rcases h with ⟨ks, e, d⟩ | ⟨ks, e, d⟩
  · exact .inl ⟨ks, .inr ⟨o, e⟩, d⟩
  · exact .inr ⟨ks, .inr ⟨o, e⟩, d⟩
theorem FzD.of {X : KM} {G : Gh} {H : Hp} {v : V} {kvs : List (PyData × PyData)} (h : Den2 X G H (.dic kvs) v) : ∃ a o, v = .ref a ∧ FzD X.K H a o kvs := by
  obtain ⟨a, e, ⟨o, ks, h1, h2⟩ | ⟨o, ks, h1, h2⟩⟩ := h
  · exact ⟨a, o, e, .inl ⟨ks, h1, h2⟩⟩
  · exact ⟨a, o, e, .inr ⟨ks, h1, h2⟩⟩
section
variable {X : Cx} {G : Gh} {W : WX} {pins : List (Addr × Obj)} {σ : St} {H : Hp} {s : Shared} {a : Addr} {o : Obj} {kvs : List (PyData × PyData)}
theorem FzD.obj (I : Inv X pins σ H s) (h : FzD X.K H a o kvs) : s.heap.get? a = some o := by
  rcases h with ⟨ks, e, d⟩ | ⟨ks, e, d⟩
  · exact (I.hok a _ e).1
  · exact (I.hok a _ e).1
/-- its entries, told by its object -/
theorem FzD.ents (I : Inv X pins σ H s) (h : FzD X.K H a o kvs) {es : Array DictEntry} {ep : Nat} (d : o.data = .dict es ep) : s.heap.DictRaw a es ep ∧ Ents X.K H kvs es := by
  obtain ⟨_, _, es2, ep2, raw, en⟩ := ents_of I h.dicR
  obtain ⟨o2, e2, x2, d2⟩ := id raw
  rw [h.obj I] at e2
  cases e2
  rw [d] at d2
  cases d2
  exact ⟨raw, en⟩
theorem turn_dv {P : Program} {w : World} {K : PySem.W.Frag} {tg : Expr} {it : Addr} {es : Array DictEntry} {ep : Nat} (hne : a ≠ it) (d : o.data = .dict es ep) (hz : es.size = kvs.length) :
    Turn P w K tg (JW K (kvs.map (·.2)) fun H => FzD K H a o kvs) [it] it (fun i h => h.IsValIter it a i es.size ep) := by
  refine turn_W (C := Unit) (cn := "dict_valueiterator") (fp := fun _ => [it, a]) (Ct := fun _ h => h.DictRaw a es ep) (Pv := fun _ i v => ∃ hi : i < es.size, v = es[i].val) (by simp) (fun A _ hh => ?_) (fun i h st b hb => ?_) (fun i h h' st k => st.at fun o e => k it (by simp) o e) (fun i h st => ?_) (by decide) (fun A i s Q E st q => wpAny_pyIter_valiter st q) fun X hP hw hK pins σ H s I hp => ?_
  · rw [List.length_map, ← hz]
    exact Walks.rawValues hh it a hne es ep
  · obtain rfl : b = it := by simpa using hb
    obtain ⟨ob, e, _, dd⟩ := st
    exact ⟨ob, e, fun v q => by rw [dd] at q; cases q⟩
  · obtain ⟨ob, e, c, dd⟩ := st
    exact ⟨ob, _, e, c, dd⟩
  · subst hK
    obtain ⟨raw, en, get⟩ := hp.ents I d
    refine ⟨(), raw, fun i v ⟨hi, ev⟩ => ?_⟩
    have hk : i < kvs.length := en ▸ hi
    obtain ⟨ent, kx, vx, g1, g2, g3, g4, g5⟩ := get i _ _ (List.getElem?_eq_getElem hk)
    rw [Array.getElem?_eq_getElem hi] at g1
    cases g1
    exact ⟨_, vx, by rw [List.getElem?_map, List.getElem?_eq_getElem hk]; rfl, ev ▸ g4, g5⟩
def pairsD (kvs : List (PyData × PyData)) : List PyData := kvs.map fun kv => .tuple [kv.1, kv.2]
theorem turn_di {P : Program} {w : World} {K : PySem.W.Frag} {elts : List Expr} {kk : Nat} {tpos : Pos} {it : Addr} {es : Array DictEntry} {ep : Nat} (hne : a ≠ it) (d : o.data = .dict es ep) (hz : es.size = kvs.length) :
    Turn P w K (.Tuple elts kk tpos) (JW K (pairsD kvs) fun H => FzD K H a o kvs) [it] it (fun i h => ∃ ok ov, IsItemIter h it a i es.size ep ok ov) := by
  refine turn_T (C := Unit) (fp := fun _ => [it, a]) (Ct := fun _ h => h.DictRaw a es ep) (Pt := fun _ i vals => ∃ hi : i < es.size, vals = #[es[i].key, es[i].val]) (Mid := fun _ i T h => ((∃ x y, IsItemIterOut h it a (i + 1) es.size ep x y T) ∧ h.DictRaw a es ep) ∧ T ≠ it) (by simp) (fun A _ hh => ?_) (fun i h st b hb => ?_) (fun i h h' st k => let ⟨x, y, e⟩ := st; ⟨x, y, k it (by simp) _ e⟩) (fun A i s Q E st q => let ⟨_, _, e⟩ := st; wpAny_pyIter_itemiter e q) fun X hP hw hK pins σ H s I hp => ?_
  · unfold pairsD
    rw [List.length_map, ← hz]
    exact WalksT.rawItems hh it a hne es ep
  · obtain rfl : b = it := by simpa using hb
    obtain ⟨x, y, e⟩ := st
    exact ⟨_, e, fun v q => nomatch q⟩
  · subst hK
    obtain ⟨raw, en, get⟩ := hp.ents I d
    refine ⟨(), raw, fun i vals ⟨hi, ev⟩ => ?_⟩
    have hk : i < kvs.length := en ▸ hi
    obtain ⟨ent, kx, vx, g1, g2, g3, g4, g5⟩ := get i _ _ (List.getElem?_eq_getElem hk)
    rw [Array.getElem?_eq_getElem hi] at g1
    cases g1
    subst ev
    exact ⟨_, [kx, vx], by unfold pairsD; rw [List.getElem?_map, List.getElem?_eq_getElem hk]; rfl, .cons g2 (.cons g4 .nil), DenL.cons g3 (DenL.one g5), by show 2 ≤ sizeLine; decide⟩
variable {e : Expr} {u : EF} {tg : Expr} {apos cpos tpos : Pos} {elts : List Expr} {kk : Nat} {R : It → Hp → Prop}
def valsL : Vl → Option (List PyData)
  | .dic kvs => some (kvs.map (·.2))
  | _ => none
def itemsL : Vl → Option (List PyData)
  | .dic kvs => some (pairsD kvs)
  | _ => none
def fWalk (F : Vl → Option (List PyData)) (u : EF) : LF := fun ρ S => (u ρ S).bind fun x S1 => ofO (F x) S1
theorem new_it (I : Inv X pins σ H s) {ob : Obj} {J : It} {tn : Nat → Heap → Prop} (T : Turn X.prog X.w X.K tg J [s.heap.objs.size] s.heap.objs.size tn) (st : tn 0 (s.heap.push ob)) (q : R J H) : PIE X pins σ tg R (.ref s.heap.objs.size) { s with heap := s.heap.push ob, toks := s.toks } := pi_one I ob T st q
/-- for x in e.values() -/
theorem diVals (he : DE X G W e u) (hbase : attributeBase e "values" X.env (eval e X.env) = eval e X.env := by rfl) (hline : (apos.endLine == cpos.line) = true := by rfl) : DI X G W tg (.Call (.Attribute e "values" apos) [] [] cpos) (fWalk valsL u) := by
  refine PI.weak (pi_val (k := fun x H1 R => ∃ r a o kvs, x = .ref r ∧ H1 r = some (ViewO r a) ∧ FzD X.K H1 a o kvs ∧ R (JW X.K (kvs.map (·.2)) fun H => FzD X.K H a o kvs) H1) (pe_vals he hbase hline) fun pins σ H s x v R I rx h => ?_) fun σ H Q q => TR.of (TG1.bind ups_c q fun ρ x v S S1 H1 eo eo1 e1 r1 q1 => ?_)
  · obtain ⟨r, a, o, kvs, rfl, hr, hf, q⟩ := h
    cases (show v = Value.ref r from rx)
    obtain ⟨_, _, es, ep, raw, en⟩ := ents_of I hf.dicR
    obtain ⟨o2, g2, x2, d2⟩ := id raw
    rw [hf.obj I] at g2
    cases g2
    have lt : a < s.heap.objs.size := Heap.lt_size (hf.obj I)
    exact wpAny_pyIter_values_raw (I.hok r _ hr).1 raw (new_it I (turn_dv (Nat.ne_of_lt lt) d2 en.1) ⟨_, Heap.get?_push_size _ rfl, rfl, rfl⟩ q)
  · cases hx : valsL x with
    | none => rw [hx] at q1; exact q1.elim
    | some ds =>
      rw [hx] at q1
      unfold valsL at hx
      split at hx
      · cases hx
        obtain ⟨a, o, ev, hf⟩ := FzD.of r1
        refine ⟨a, _, ev, hf.dicR, fun r hr => ⟨r, a, o, _, rfl, upd_same, hf.pers (Same.pers (same_new hr)), ?_⟩⟩
        exact q1.put eo1.src (same_new hr) (JW.serves fun H p => (hf.pers (Same.pers (same_new hr))).pers p)
      · cases hx
/-- e.items() -/
def tItems (K : PySem.W.Frag) (te : TE) : TE := fun σ H Q => te σ H fun x H1 => ∃ a kvs, x = .ref a ∧ DicR K H1 a kvs ∧ ∀ r, H1 r = none → Q (.ref r) (upd H1 r (.ext fun h => h.IsItemsView r a))
theorem pe_items {te : TE} (he : PE X e te) (hbase : attributeBase e "items" X.env (eval e X.env) = eval e X.env := by rfl) (hline : (apos.endLine == cpos.line) = true := by rfl) : PE X (.Call (.Attribute e "items" apos) [] [] cpos) (tItems X.K te) := ⟨fun pins s σ H Q I h =>
  wpAny_Call_method hbase rfl hline F.plainAttrs_dict F.slot_dict_items F.type_dict_items (thn (he.run pins s σ H _ I h) fun u s1 ⟨x, H1, I1, rx, a, kvs, ex, hd, q⟩ => by
    subst ex
    cases (show u = Value.ref a from rx)
    obtain ⟨hs, _, es, ep, raw, _⟩ := ents_of I1 hd
    refine ⟨raw.typeIs, fun b eb => by cases eb; exact let ⟨o, ho, hx, _⟩ := raw; ⟨o, ho, hx.2.1⟩, ?_⟩
    refine method_meetsIn F.slot_dict_items F.entry_dict_items rfl (PySem.evalArgs_none ⟨rfl, raw.typeIs, F.args_dict_items_1 _, _, meets_dict_items_raw a hs, ⟨⟨es, ep, raw⟩, ?_⟩⟩)
    exact ⟨.ref s1.heap.objs.size, _, I1.laid (o := .ext fun h => h.IsItemsView s1.heap.objs.size a) (t' := s1.toks) (fun b o eb => Heap.get?_push_of_some _ eb) (Nat.le_refl _) ⟨⟨_, Heap.get?_push_size _ rfl, rfl, rfl⟩, ⟨_, Heap.get?_push_size _ rfl⟩, fun h1 h2 ⟨o, e1, e2, e3⟩ k => ⟨o, k o e1, e2, e3⟩⟩, rfl, q _ (I1.hok.fresh (Nat.le_refl _))⟩)⟩
/-- for k, x in e.items() -/
theorem diItems (he : DE X G W e u) (hbase : attributeBase e "items" X.env (eval e X.env) = eval e X.env := by rfl) (hline : (apos.endLine == cpos.line) = true := by rfl) : DI X G W (.Tuple elts kk tpos) (.Call (.Attribute e "items" apos) [] [] cpos) (fWalk itemsL u) := by
  refine PI.weak (pi_val (k := fun x H1 R => ∃ r a o kvs, x = .ref r ∧ H1 r = some (.ext fun h => h.IsItemsView r a) ∧ FzD X.K H1 a o kvs ∧ R (JW X.K (pairsD kvs) fun H => FzD X.K H a o kvs) H1) (pe_items he hbase hline) fun pins σ H s x v R I rx h => ?_) fun σ H Q q => TR.of (TG1.bind ups_c q fun ρ x v S S1 H1 eo eo1 e1 r1 q1 => ?_)
  · obtain ⟨r, a, o, kvs, rfl, hr, hf, q⟩ := h
    cases (show v = Value.ref r from rx)
    obtain ⟨_, _, es, ep, raw, en⟩ := ents_of I hf.dicR
    obtain ⟨o2, g2, x2, d2⟩ := id raw
    rw [hf.obj I] at g2
    cases g2
    have lt : a < s.heap.objs.size := Heap.lt_size (hf.obj I)
    exact wpAny_pyIter_items_raw (I.hok r _ hr).1 raw (new_it I (turn_di (Nat.ne_of_lt lt) d2 en.1) ⟨.none, .none, Heap.get?_push_size _ rfl⟩ q)
  · cases hx : itemsL x with
    | none => rw [hx] at q1; exact q1.elim
    | some ds =>
      rw [hx] at q1
      unfold itemsL at hx
      split at hx
      · cases hx
        obtain ⟨a, o, ev, hf⟩ := FzD.of r1
        refine ⟨a, _, ev, hf.dicR, fun r hr => ⟨r, a, o, _, rfl, upd_same, hf.pers (Same.pers (same_new hr)), ?_⟩⟩
        exact q1.put eo1.src (same_new hr) (JW.serves fun H p => (hf.pers (Same.pers (same_new hr))).pers p)
      · cases hx
end
end L2.HL

set_option maxHeartbeats 8000000
/-! own lists and dicts that change: append, insert, pop, xs[i] = v, d[k] = v; count, index -/
namespace L2.HL
open PySem PySem.Spec PyProof.Rows
/-! ### an expression that changes an own list -/
abbrev MF := En → Src → Out (Vl × En)
def TRM (X : KM) (G : Gh) (W : WX) (f : MF) : TE := fun σ H Q => ∃ ρ S, EO X G H σ ρ S ∧ match f ρ S with
  | .ok x S' => ∀ v H', EO X G H' σ x.2 S' → Pers H H' → Den2 X G H' x.1 v → Q v H'
  | .exn c a S' => ∀ cls d H', Ext G H H' → SrcOk G H' S' → ExnD X H' c a cls d → W cls d σ H'
  | .stuck => False
def DM (X : Cx) (G : Gh) (W : WX) (e : Expr) (f : MF) : Prop := PE X e (TRM X.km G W f)
def fMut (i : Nat) (F : List PyData → List Vl → Option (List PyData × PyData)) (g : AF) : MF := fun ρ S => match ρ[i]? with
  | some (.ow (.dat (.list ds))) => (g ρ S).bind fun xs S1 => match F ds xs with
    | some r => .ok (.dat r.2, ρ.set i (.ow (.dat (.list r.1)))) S1
    | none => .stuck
  | _ => .stuck
/-- what a method of lists does, as data -/
def MutR (X : Cx) (id : String) (F : List PyData → List Vl → Option (List PyData × PyData)) (r : V → List V → Hp → VK → Prop) : Prop := MtR X id r ∧
  ∀ (G : Gh) (H : Hp) (a : Addr) (xs : List V) (ds : List PyData) (as : List Vl) (vs : List V) (ds' : List PyData) (res : PyData) (Q : VK), H a = some (.lst xs) → DenL X.K H ds xs → AllD X.km G H as vs → F ds as = some (ds', res) →
    (∀ v ys, DenL X.K H ds' ys → Den X.K H res v → Q v (upd H a (.lst ys))) → r (.ref a) vs H Q
section
variable {X : Cx} {G : Gh} {W : WX} {e : Expr} {es : List Expr} {g : AF} {F : List PyData → List Vl → Option (List PyData × PyData)} {x name : Str} {id : String} {r : V → List V → Hp → VK → Prop} {p apos cpos : Pos}
theorem mut_of {i : Nat} {σ : St} {H : Hp} {Q : VK} (hr : MutR X id F r) (q : TRM X.km G W (fMut i F g) σ H Q) : tBM X.K "list" r (tVar i) (TA1 AllD X.km G W g) σ H Q := by
  obtain ⟨ρ, S, eo, q⟩ := q
  unfold fMut at q
  cases e : ρ[i]? with
  | none => rw [e] at q; exact q.elim
  | some s =>
    rw [e] at q
    cases s with
    | no => exact q.elim
    | fz d => exact q.elim
    | ow d =>
      cases d with
      | dat d =>
        cases d with
        | list ds =>
          dsimp only at q
          obtain ⟨a, e1, e2, xs, e3, e4⟩ := eo.slot i _ e
          refine ⟨.ref a, e1, .inl ⟨rfl, xs, SqL.of e3⟩, ρ, S, eo, ?_⟩
          cases eg : g ρ S with
          | stuck => rw [eg] at q; exact q
          | exn c f S' => rw [eg] at q; exact q
          | ok as S1 =>
            rw [eg] at q
            simp only [Out.bind_ok] at q
            intro vs H1 x1 s1 ad
            have eo1 := eo.ext x1 s1
            obtain ⟨a', f1, f2, ys, f3, f4⟩ := eo1.slot i _ e
            rw [e1] at f1
            cases f1
            cases hF : F ds as with
            | none => rw [hF] at q; exact q.elim
            | some r2 =>
              rw [hF] at q
              refine hr.2 G H1 a ys ds as vs r2.1 r2.2 Q f3 f4 ad (by rw [hF]) fun v zs dz dv => ?_
              have p0 : Pers H1 (upd H1 a (.lst zs)) := by
                refine ⟨fun b us z => ?_, fun b o' w z => ?_⟩
                · rw [upd_ne (fun y => by rw [y, f3] at z; cases z)]; exact z
                · rw [upd_ne (fun y => by rw [y, f3] at z; cases z)]; exact z
              have od : OwnD X.km.K (upd H1 a (.lst zs)) a (.dat (.list r2.1)) := ⟨zs, upd_same, DenL.pers p0 _ _ dz⟩
              have m := (eo1.mut e e1 od).1
              exact q v _ m ((Ext.pers eo.src x1).trans p0) (Den.pers p0 _ _ dv)
        | _ => exact q.elim
      | _ => exact q.elim
/-- x.append(e), x.insert(i, e), x.pop(i) -/
theorem dMut (i : Nat) (hr : MutR X id F r) (slot : Slot "list" name id) (hty : typeOf (.builtin id) = pure (.type "method_descriptor")) (ha : DAs X G W (e :: es) g) (hN : X.N[i]? = some x := by rfl) (hv : Vis X.env.scope x := by first | exact Or.inl rfl | exact Or.inr (Or.inl rfl) | exact Or.inr (Or.inr rfl))
    (hd : (x == ("__debug__" : Str)) = false := by decide) (hcd : (x == ("__classdict__" : Str)) = false := by decide) (hbase : attributeBase (.Name x p) name X.env (eval (.Name x p) X.env) = eval (.Name x p) X.env := by rfl)
    (hfew : ((backTo cpos (starEach (e :: es) X.env)).all (fun x => !x.1) && (backToKw cpos (keywordEach [] X.env)).all (fun x => x.1.isSome)
      && decide ((e :: es).length + ([] : List Keyword).length + (if ([] : List Keyword).isEmpty then 0 else 1) < 30)) = true := by rfl)
    (hline : (apos.endLine == cpos.line) = true := by rfl) (hs : starEach (e :: es) X.env = (false, eval e X.env) :: starEach es X.env := by rfl) (hplain : (backTo cpos (starEach es X.env)).any (·.1) = false := by rfl) :
    DM X G W (.Call (.Attribute (.Name x p) name apos) (e :: es) [] cpos) (fMut i F g) :=
  PE.weak (pe_bm PySem.F.plainAttrs_list slot hty hr.1 (pe_var hN hv hd hcd) ha hbase hfew hline hs hplain) fun σ H Q q => mut_of hr q
def appF : List PyData → List Vl → Option (List PyData × PyData)
  | ds, [.dat d] => if ds.length < 16000000 then some (ds ++ [d], .none) else none
  | _, _ => none
def insF : List PyData → List Vl → Option (List PyData × PyData)
  | ds, [.dat (.int i), .dat d] => if ds.length < 16000000 ∧ 0 ≤ i ∧ i < 2 ^ 63 then some (ds.take i.toNat ++ [d] ++ ds.drop i.toNat, .none) else none
  | _, _ => none
def popF : List PyData → List Vl → Option (List PyData × PyData)
  | ds, [.dat (.int i)] => if -(2 ^ 63) ≤ i ∧ i < 2 ^ 63 then (match seqIndex? i ds.length with
      | some k => (ds[k]?).map fun d => (ds.eraseIdx k, d)
      | none => none) else none
  | _, _ => none
theorem AllD.one {X : KM} {H : Hp} {x : Vl} {vs : List V} (h : AllD X G H [x] vs) : ∃ v, vs = [v] ∧ Den2 X G H x v := by
  cases h with
  | cons a t => cases t; exact ⟨_, rfl, a⟩
theorem AllD.two {X : KM} {H : Hp} {x y : Vl} {vs : List V} (h : AllD X G H [x, y] vs) : ∃ v u, vs = [v, u] ∧ Den2 X G H x v ∧ Den2 X G H y u := by
  cases h with
  | cons a t =>
    cases t with
    | cons b t => cases t; exact ⟨_, _, rfl, a, b⟩
theorem mr_append : MutR X "list.append" appF rAppend := ⟨mt_append, fun G H a xs ds as vs ds' res Q ha hd ad hF q => by
  unfold appF at hF
  split at hF
  · split at hF
    · rename_i hz
      cases hF
      obtain ⟨v, rfl, dv⟩ := ad.one
      exact ⟨a, xs, v, rfl, rfl, ha, by rw [← sizeN, ← hd.length]; omega, q _ _ (hd.append (DenL.one dv)) (by unfold Den; rfl)⟩
    · cases hF
  · cases hF⟩
theorem mr_insert : MutR X "list.insert" insF (fun x vs H Q => ∃ (l : Addr) (xs : List V) (i : Int) (y : V), x = .ref l ∧ vs = [.int i, y] ∧ H l = some (.lst xs) ∧ xs.length < sizeLine ∧ 0 ≤ i ∧ i < 2 ^ 63 ∧ Q .non (upd H l (.lst (xs.take i.toNat ++ [y] ++ xs.drop i.toNat)))) :=
  ⟨mt_insert, fun G H a xs ds as vs ds' res Q ha hd ad hF q => by
    unfold insF at hF
    split at hF
    · split at hF
      · rename_i hz
        cases hF
        obtain ⟨v, u, rfl, dv, du⟩ := ad.two
        have e1 := (show DB X.km G H H _ v from .inl dv).int
        subst e1
        exact ⟨a, xs, _, u, rfl, rfl, ha, by rw [← sizeN, ← hd.length]; omega, hz.2.1, hz.2.2, q _ _ (((hd.take _).append (DenL.one du)).append (hd.drop _)) (by unfold Den; rfl)⟩
      · cases hF
    · cases hF⟩
theorem mr_pop : MutR X "list.pop" popF rPopAt := ⟨mt_popAt, fun G H a xs ds as vs ds' res Q ha hd ad hF q => by
  unfold popF at hF
  split at hF
  · split at hF
    · rename_i hz
      split at hF
      · rename_i k hk
        obtain ⟨d, e1, e2⟩ := Option.map_eq_some_iff.mp hF
        cases e2
        obtain ⟨v, rfl, dv⟩ := ad.one
        have e3 := (show DB X.km G H H _ v from .inl dv).int
        subst e3
        obtain ⟨y, hy, dy⟩ := hd.get e1
        exact ⟨a, xs, _, k, y, rfl, rfl, ha, hz.1, hz.2, by rw [← hd.length]; exact hk, hy, q _ _ (hd.erase k) dy⟩
      · cases hF
    · cases hF
  · cases hF⟩
/-! ### statements over them -/
variable {RR : RL} {f : MF} {pos : Pos}
def sDropM (f : MF) : SF := fun ρ S => SOut.letV (f ρ S) ρ fun x S1 => .nx x.2 S1
def sSetM (i : Nat) (f : MF) : SF := fun ρ S => SOut.letV (f ρ S) ρ fun x S1 => .nx (x.2.set i (.fz x.1)) S1
theorem trm_use {σ : St} {H : Hp} {ρ : En} {S : Src} {D : Ends} {k : Vl × En → Src → SOut} {Q : VK} (eo : EO X.km G H σ ρ S) (h : FinS RR X.km G W H D (SOut.letV (f ρ S) ρ k))
    (hk : ∀ x v S1 H1, f ρ S = .ok x S1 → EO X.km G H1 σ x.2 S1 → Den2 X.km G H1 x.1 v → FinS RR X.km G W H1 D (k x S1) → Q v H1) : TRM X.km G W f σ H Q := by
  refine ⟨ρ, S, eo, ?_⟩
  cases e : f ρ S with
  | stuck => rw [e] at h; exact h
  | exn c a S' => rw [e] at h; exact fun cls d H' x y z => h cls d σ H' (eo.ext x y) (Ext.pers eo.src x) z
  | ok x S1 => rw [e] at h; exact fun v H' y p d => hk x v S1 H' e y d (FinS.up p h)
theorem dDropM (h : DM X G W e f) (hs : swapsWith e none pos.line X.env = pure false := by rfl) : DS1 RR X G W (.Expr e pos) (sDropM f) := PS.weak (ps_expr h hs) fun D σ H ⟨ρ, S, eo, q⟩ => trm_use eo q fun x v S1 H1 _ y d z => FinS.next z y
theorem dSetM {i : Nat} {p : Pos} (h : DM X G W e f) (hN : X.N.Nodup) (hi : X.N[i]? = some x := by rfl) (hx : Loc X.env.scope x := by first | exact Or.inl rfl | exact Or.inr rfl) (hs : swapsWith e (some (.Name x p)) pos.line X.env = pure false := by rfl)
    (hf : X.fn x = true ∨ X.env.scope.names.lookup x = some .local := by first | exact .inl rfl | exact .inr rfl | assumption) : DS1 RR X G W (.Assign [.Name x p] e pos) (sSetM i f) := PS.weak (ps_set hN hi hx h hs hf) fun D σ H ⟨ρ, S, eo, q⟩ => trm_use eo q fun y v S1 H1 _ eo1 d z => FinS.next z (eo1.set d)
/-! ### x, y = a.pop(i), b.pop(i) -/
def sParM (i j : Nat) (f1 f2 : MF) : SF := fun ρ S => SOut.letV (f1 ρ S) ρ fun x S1 => (match x.1 with
  | .dat d => SOut.letV (f2 x.2 S1) x.2 fun y S2 => .nx ((y.2.set i (.fz (.dat d))).set j (.fz y.1)) S2
  | _ => .stuck)
theorem dParM {i j : Nat} {x y : Str} {a b : Expr} {f1 f2 : MF} {px py pt : Pos} {kt k2 pt2} (ha : DM X G W a f1) (hb : DM X G W b f2) (hc : X.calm = true) (hN : X.N.Nodup)
    (hij : i ≠ j := by decide) (hi : X.N[i]? = some x := by rfl) (hj : X.N[j]? = some y := by rfl) (hx : X.env.scope.names.lookup x = some .local := by rfl) (hy : X.env.scope.names.lookup y = some .local := by rfl)
    (hw : swappedStores [.Tuple [.Name x px, .Name y py] kt pt] (.Tuple [a, b] k2 pt2) X.env = pure (some [x, y]) := by rfl) (hs : swapsWithSole [.Tuple [.Name x px, .Name y py] kt pt] (.Tuple [a, b] k2 pt2) pos.line X.env = pure false := by rfl)
    (hsa : starEach [a, b] X.env = (false, eval a X.env) :: starEach [b] X.env := by rfl) (hsb : starEach [b] X.env = (false, eval b X.env) :: starEach [] X.env := by rfl) :
    DS1 RR X G W (.Assign [.Tuple [.Name x px, .Name y py] kt pt] (.Tuple [a, b] k2 pt2) pos) (sParM i j f1 f2) :=
  PS.weak (ps_par hc hN hi hj hij hx hy (pa_cons ha (pa_cons hb pa_nil hsb) hsa) hw hs) fun D σ H ⟨ρ, S, eo, q⟩ => by
    show TRM X.km G W f1 σ H _
    refine trm_use eo q fun u v S1 H1 _ eo1 d1 z => ?_
    show TRM X.km G W f2 σ H1 _
    obtain ⟨u1, ρ2⟩ := u
    have hu : ∃ d, u1 = .dat d := by
      cases u1 with
      | dat d => exact ⟨d, rfl⟩
      | _ => exact z.elim
    obtain ⟨d, rfl⟩ := hu
    refine ⟨ρ2, S1, eo1, ?_⟩
    dsimp only at z
    cases e2 : f2 ρ2 S1 with
    | stuck => rw [e2] at z; exact z
    | exn c a S' => rw [e2] at z; exact fun cls d H' y1 y2 y3 => z cls d σ H' (eo1.ext y1 y2) (Ext.pers eo1.src y1) y3
    | ok u2 S2 =>
      rw [e2] at z
      intro v2 H2 eo2 p2 d2
      refine ⟨v, v2, rfl, FinS.next (FinS.up p2 z) ((eo2.set (x := .dat d) (Den.pers p2 d v d1)).set d2)⟩
end
end L2.HL

set_option maxHeartbeats 8000000
/-! abs, int, min, max of two, isinstance, xs.count(x) -/
namespace L2.HL
open PySem PySem.Spec PyProof.Rows
def absF : List Vl → Option Vl
  | [.dat (.int i)] => some (.dat (.int (if i < 0 then -i else i)))
  | _ => none
def intF : List Vl → Option Vl
  | [.dat (.int i)] => some (.dat (.int i))
  | [.dat (.bool b)] => some (.dat (.int (if b then 1 else 0)))
  | _ => none
def minF : List Vl → Option Vl
  | [.dat (.int i), .dat (.int j)] => some (.dat (.int (if j < i then j else i)))
  | _ => none
def maxF : List Vl → Option Vl
  | [.dat (.int i), .dat (.int j)] => some (.dat (.int (if j > i then j else i)))
  | _ => none
section
variable {X : Cx} {G : Gh}
/-- a built-in of one or two plain values, by a rule of the hand layer -/
theorem cl_of {f : Value} {F : List Vl → Option Vl} {r : List V → Hp → VK → Prop} (h : CallR X f r) (k : ∀ (xs : List Vl) (vs : List V) (H : Hp) (z : Vl) (Q : VK), AllB X.km G H xs vs → F xs = some z → (∀ v, DN X.km G H H z v → Q v H) → r vs H Q) : CallR X f (rL X F G) := fun pins s σ H vs us Q I rv ⟨xs, z, ab, hf, q⟩ =>
  h pins s σ H vs us Q I rv (k xs vs H z Q ab hf fun v d => q v H (Same.refl H) d)
theorem cl_abs : CallR X (.builtin "abs") (rL X absF G) := cl_of call_abs fun xs vs H z Q ab hf q => by
  unfold absF at hf
  split at hf
  · cases hf
    obtain ⟨v, rfl, d⟩ := ab.one
    cases d.int
    exact ⟨_, rfl, q _ (Vl.i_dn _)⟩
  · cases hf
theorem cl_int : CallR X (.type "int") (rL X intF G) := cl_of call_int1 fun xs vs H z Q ab hf q => by
  unfold intF at hf
  split at hf
  · cases hf
    obtain ⟨v, rfl, d⟩ := ab.one
    cases d.int
    exact .inl ⟨_, rfl, q _ (Vl.i_dn _)⟩
  · cases hf
    obtain ⟨v, rfl, d⟩ := ab.one
    cases d.bl
    exact .inr ⟨_, rfl, q _ (Vl.i_dn _)⟩
  · cases hf
theorem cl_min (hc : X.calm = true) : CallR X (.builtin "min") (rL X minF G) := cl_of (call_min2 hc) fun xs vs H z Q ab hf q => by
  unfold minF at hf
  split at hf
  · cases hf
    obtain ⟨v, u, rfl, d, e⟩ := ab.two
    cases d.int
    cases e.int
    exact ⟨_, _, rfl, q _ (Vl.i_dn _)⟩
  · cases hf
theorem cl_max (hc : X.calm = true) : CallR X (.builtin "max") (rL X maxF G) := cl_of (call_max2 hc) fun xs vs H z Q ab hf q => by
  unfold maxF at hf
  split at hf
  · cases hf
    obtain ⟨v, u, rfl, d, e⟩ := ab.two
    cases d.int
    cases e.int
    exact ⟨_, _, rfl, q _ (Vl.i_dn _)⟩
  · cases hf
/-! ### isinstance with a built-in type -/
def tyD : PyData → String
  | .none => "NoneType"
  | .bool _ => "bool"
  | .int _ => "int"
  | .str _ => "str"
  | .list _ => "list"
  | .tuple _ => "tuple"
  | .dict _ => "dict"
/-- what isinstance answers, as data -/
def isiV (T : String) : Vl → Option Vl
  | .dat d => if T = "int" ∨ T = "bool" ∨ T = "str" ∨ T = "list" ∨ T = "tuple" then some (.dat (.bool (tyD d == T || (tyD d == "bool" && T == "int")))) else none
  | _ => none
theorem DB.ty {H H0 : Hp} {d : PyData} {v : V} (h : DB X.km G H0 H (.dat d) v) : TyX X.K H v (.type (tyD d)) := by
  cases d with
  | none => cases h.non; exact .base .non
  | bool b => cases h.bl; exact .base (.bl b)
  | int i => cases h.int; exact .base (.int i)
  | str x => cases h.str; exact .base (.str x)
  | list ds =>
    obtain ⟨a, xs, rfl, hr, _⟩ := h.list
    rcases hr with hr | ⟨o, hr⟩
    · exact .base (.lst hr)
    · exact .base (.frz hr)
  | tuple ds =>
    obtain ⟨a, xs, rfl, hr, _⟩ := h.tup
    rcases hr with hr | ⟨_, o, its, n, e, c, _⟩
    · exact .base (.tup hr)
    · exact .kTuple e c
  | dict ds => exact h.dict.elim
theorem kit_tab : ∀ n ∈ ["NoneType", "bool", "int", "str", "list", "tuple"], ∀ T ∈ ["int", "bool", "str", "list", "tuple"], kitB n T = some (n == T || (n == "bool" && T == "int")) := by decide +kernel
theorem kit_all (d : PyData) (hd : ∀ l, d ≠ .dict l) {T : String} (h : T = "int" ∨ T = "bool" ∨ T = "str" ∨ T = "list" ∨ T = "tuple") : kitB (tyD d) T = some (tyD d == T || (tyD d == "bool" && T == "int")) := by
  refine kit_tab _ ?_ _ (by simpa using h)
  cases d with
  | dict l => exact absurd rfl (hd l)
  | _ => simp [tyD]
variable {W : WX} {e : Expr} {u : EF}
theorem dIsi {T : String} {x : Str} {p p2 pos : Pos} (he : DV X G W e u) (hm : X.mg "isinstance" = none) (hmT : X.mg x = none) (hT : bootBuiltins x = some (.type T)) (hg : Gl X "isinstance" := by rfl) (hgT : Gl X x := by rfl) (hn : x ≠ "__name__" := by decide) (hdb : (x == ("__debug__" : Str)) = false := by decide)
    (h1 : starEach [e, .Name x p2] X.env = (false, eval e X.env) :: starEach [.Name x p2] X.env := by rfl) (h2 : starEach [.Name x p2] X.env = (false, eval (.Name x p2) X.env) :: starEach [] X.env := by rfl) (hpl : (backTo pos (starEach [.Name x p2] X.env)).any (·.1) = false := by rfl) :
    DO X G W (.Call (.Name "isinstance" p) [e, .Name x p2] [] pos) (fU (isiV T) u) :=
  PE.weak (pe_callB (id := "isinstance") call_isi hg hm PyProof.Rows.Boot.«isinstance» (pa_cons he (pa_cons (pe_bltn (v := .ty T) hgT hmT hT rfl hn hdb) pa_nil h2) h1) (by decide) (by decide) h1 hpl) fun σ H Q q => by
    show TR DB X.km G W u σ H _
    refine TR.of (TG1.bind ups_dn q.g fun ρ x v S S1 H1 eo eo1 e1 r1 q1 => ?_)
    unfold isiV at q1
    split at q1
    · split at q1
      · rename_i d hTs
        have nd : ∀ l, d ≠ .dict l := fun l z => by subst z; exact DB.dict r1
        exact ⟨v, .ty T, _, _, _, rfl, .ty T, DB.ty r1, kit_ty (kit_all d nd hTs), q1.ret eo1.src (Vl.b_dn _)⟩
      · exact q1.elim
    · exact q1.elim
/-! ### xs.count(x) -/
def countV : Vl → List Vl → Option Vl
  | .dat (.list xs), [.dat d] => if min (PyData.depthAll xs) d.depth ≤ 100 then some (.dat (.int ((xs.countP fun y => PyData.eqv y d : Nat) : Int))) else none
  | _, _ => none
def fMeth (F : Vl → List Vl → Option Vl) (u : EF) (g : AF) : EF := fun ρ S => (u ρ S).bind fun x S1 => (g ρ S1).bind fun xs S2 => ofO (F x xs) S2
theorem mt_countD (hu : X.A.units + 200 < cLine) : MtR X "list.count" (fun x vs H Q => ∃ (a : Addr) (ys : List V) (ds : List PyData) (y : V) (d : PyData) (H0 : Hp), x = .ref a ∧ vs = [y] ∧ SqL X.K H a ys ∧ DenL X.K H ds ys ∧ DB X.km G H0 H (.dat d) y ∧ min (PyData.depthAll ds) d.depth ≤ 100 ∧ Q (.int ((ds.countP fun z => PyData.eqv z d : Nat) : Int)) H) := by
  intro pins s σ H x xs v us Q I rx rv h
  obtain ⟨a, ys, ds, y, d, H0, rfl, rfl, hs, hd, hy, hz, q⟩ := h
  cases rx
  obtain ⟨w, rfl, ry⟩ := rv.one
  obtain ⟨its, ri, p, _⟩ := I.list hs
  obtain ⟨as, rs⟩ := Dp.readsAll I ds _ its (DenL.dp ds ys hd) ri
  obtain ⟨bs, rd⟩ := hy.reads I ry
  exact SeqAt.count_list_data p.isList (by simpa using rs) rd (DenL.plain ds ys hd) hy.plain (by omega) ⟨.int _, H, I.tok _, ⟨_, rfl⟩, q⟩
end
end L2.HL

/-! small rules: a shared value that is no list or dict, minus -/
namespace L2.HL
open PySem PySem.Spec PyProof.Rows
theorem hu_of {k : Nat} {A : Around} (r : Room k A) : A.units + 200 < cLine := by have := r.un; omega
def noBox (x : Vl) : Option Vl := if x.box = true then none else some x
def negV : Vl → Option Vl
  | .dat (.int i) => some (.dat (.int (-i)))
  | _ => none
section
variable {X : Cx} {G : Gh} {W : WX} {e : Expr} {u : EF} {pos : Pos}
theorem dNb (he : DE X G W e u) : DO X G W e (fU noBox u) := PE.weak he fun σ H Q q => by
  show TR DF X.km G W u σ H _
  exact TR.of (TG1.bind ups_dn q.g fun ρ x v S S1 H1 eo eo1 e1 r1 q1 => by
    unfold noBox at q1
    split at q1
    · exact q1.elim
    · rename_i h
      exact q1.ret eo1.src (.inr ⟨by simpa using h, r1⟩))
theorem dNeg (he : DV X G W e u) : DO X G W (.UnaryOp .USub e pos) (fU negV u) := PE.weak (pe_un un_neg he) fun σ H Q q =>
  TR.of (TG1.bind ups_dn q.g fun ρ x v S S1 H1 eo eo1 e1 r1 q1 => by
    unfold negV at q1
    split at q1
    · have ev := DB.int r1
      exact ⟨_, ev, q1.ret eo1.src (.inr ⟨rfl, by show Den _ _ _ _; unfold Den; rfl⟩)⟩
    · exact q1.elim)
/-! ### xs[::-1] -/
def revV : Vl → Option Vl
  | .dat (.list xs) => some (.dat (.list xs.reverse))
  | _ => none
theorem dRev {k : Nat} {p1 p2 p3 : Pos} (he : DV X G W e u) : DO X G W (.Subscript e (.Slice none none (some (.UnaryOp .USub (.Constant (.int 1) k p1) p2)) p3) pos) (fU revV u) := PE.weak (pe_revL he) fun σ H Q q => by
  show TR DB X.km G W u σ H _
  refine TR.of (TG1.bind ups_dn q.g fun ρ x v S S1 H1 eo eo1 e1 r1 q1 => ?_)
  unfold revV at q1
  split at q1
  · obtain ⟨a, xs, rfl, rd, dl⟩ := DB.list r1
    have sq : SqL X.K H1 a xs := by
      rcases rd with h | ⟨o, h⟩
      · exact .inl (.inl h)
      · exact .inl (.inr ⟨o, h⟩)
    exact ⟨a, xs, rfl, sq, fun p hp => q1.put eo1.src (same_new hp) (.inl ⟨rfl, p, rfl, hp, _, upd_same, DenL.pers (Same.pers (same_new hp)) _ _ dl.reverse⟩)⟩
  · exact q1.elim
/-! ### xs.count(e) -/
def fCount (u : EF) (g : AF) : EF := fun ρ S => (u ρ S).bind fun x S1 => match x with
  | .dat (.list xs) => (g ρ S1).bind fun as S2 => ofO (countV (.dat (.list xs)) as) S2
  | _ => .stuck
theorem rd_sq {K : PySem.W.Frag} {H : Hp} {a : Addr} {xs : List V} (h : Rd H a (.lst xs)) : SqL K H a xs := by
  rcases h with h | ⟨o, h⟩
  · exact .inl (.inl h)
  · exact .inl (.inr ⟨o, h⟩)
variable {a : Expr} {g : AF} {apos cpos : Pos}
theorem dCount (hu : X.A.units + 200 < cLine) (he : DV X G W e u) (ha : DAv X G W [a] g) (hbase : attributeBase e "count" X.env (eval e X.env) = eval e X.env := by rfl)
    (hfew : ((backTo cpos (starEach [a] X.env)).all (fun x => !x.1) && (backToKw cpos (keywordEach [] X.env)).all (fun x => x.1.isSome)
      && decide (([a] : List Expr).length + ([] : List Keyword).length + (if ([] : List Keyword).isEmpty then 0 else 1) < 30)) = true := by rfl)
    (hline : (apos.endLine == cpos.line) = true := by rfl) (hs : starEach [a] X.env = (false, eval a X.env) :: starEach [] X.env := by rfl) (hplain : (backTo cpos (starEach [] X.env)).any (·.1) = false := by rfl) :
    DO X G W (.Call (.Attribute e "count" apos) [a] [] cpos) (fCount u g) :=
  PE.weak (pe_bm PySem.F.plainAttrs_list PySem.F.slot_list_count PySem.F.type_list_count (mt_countD (G := G) hu) he ha hbase hfew hline hs hplain) fun σ H Q q => by
    show TR DB X.km G W u σ H _
    refine TR.of (TG1.bind ups_dn q.g fun ρ x v S S1 H1 eo eo1 e1 r1 q1 => ?_)
    split at q1
    · rename_i xs
      obtain ⟨l, ys, rfl, rd, dl⟩ := DB.list r1
      refine ⟨.inl ⟨rfl, ys, (rd_sq rd)⟩, ?_⟩
      refine TA1.of (TG1.bind (k := fun _ as S2 => ofO (countV (.dat (.list xs)) as) S2) ups_dn ⟨ρ, S1, eo1, q1⟩ fun ρ as vs S' S2 H2 eo' eo2 e2 ab q2 => ?_)
      cases hf : countV (.dat (.list xs)) as with
      | none => rw [hf] at q2; exact q2.elim
      | some z =>
        rw [hf] at q2
        unfold countV at hf
        split at hf
        · rename_i xs' d e0
          cases e0
          split at hf
          · rename_i hz
            cases hf
            obtain ⟨l2, ys2, e3, rd2, dl2⟩ := DB.list (DB.ext eo'.src e2 r1)
            cases e3
            cases ab with
            | cons h0 t0 =>
              cases t0
              exact ⟨l, ys2, _, _, d, H2, rfl, rfl, (rd_sq rd2), dl2, h0, hz, q2.ret eo2.src (.inr ⟨rfl, by show Den _ _ _ _; unfold Den; rfl⟩)⟩
          · cases hf
        · cases hf
    · exact q1.elim
end
end L2.HL

/-! own errors: the base's __init__ that an own class hands on, the class's own __init__ -/
namespace L2.HL
open PySem PySem.Spec PyProof.Rows
/-- what is known of the base class at L: it hands on ValueError's __init__ -/
structure BaseI (K : PySem.W.Frag) (L : Addr) : Prop where
  sp : PySem.W.specialIn K (.ref L) "__getattribute__" = some (some (.builtin "type.__getattribute__"))
  rd : PySem.W.readsIn K L (.type "type") = true
  fi : PySem.W.findCls K (.ref L) (.type "type") "__init__" = some (.val (.builtin "ValueError.__init__"))
section
variable {X : Cx} {e : Expr} {es : List Expr} {ta : TA} {x : Str} {L : Addr} {p1 p2 pos : Pos}
theorem pe_baseInit {pl : Sem Bool} (B : BaseI X.K L) (hm : X.mg x = some (.ref L)) (ha : PA X (e :: es) ta) (hg : Gl X x := by rfl) (hdb : (x == ("__debug__" : Str)) = false := by decide)
    (hc : eval (.Call (.Attribute (.Name x p1) "__init__" p2) (e :: es) [] pos) X.env = (do
      let ov ← eval (.Name x p1) X.env
      standAt p2.atName
      let (g, first) ← holding [ov] (getMethod ov "__init__" pl)
      callWith pos g first (backTo pos (starEach (e :: es) X.env)) (backToKw pos (keywordEach [] X.env))) := by rfl)
    (he : starEach (e :: es) X.env = (false, eval e X.env) :: starEach es X.env := by rfl) (hpl : (backTo pos (starEach es X.env)).any (·.1) = false := by rfl) :
    PE X (.Call (.Attribute (.Name x p1) "__init__" p2) (e :: es) [] pos) (tVeI X.K ta) := ⟨fun pins s σ H Q I h => by
  have got : ∀ (Q' : Value × List Value → Shared → Prop), Q' (.builtin "ValueError.__init__", []) { s with toks := s.toks + 1 } → wpAny (model X.prog X.w) X.A (getMethod (.ref L) "__init__" pl) Q' X.xe s := fun Q' z =>
    PySem.W.method_cls I.kIn B.sp (PySem.W.cls_value I.kIn B.rd B.fi (by decide +kernel) z)
  refine PySem.W.methodCall_KW (ld_glob I hg hm (got _ ?_) hdb) hc
  show wpAny _ _ (callWith _ (Value.builtin "ValueError.__init__") [] _ []) _ _ _
  have run := ha.run pos pins { s with toks := s.toks + 1 } σ H _ (I.tok _) h
  refine callWith_method1 (thn run ?_) he hpl
  rintro us s1 ⟨vs, H1, I1, rel, a, C, ws, rfl, few, T, ea, q⟩
  cases rel with
  | cons ra rws =>
    cases ra
    have n := Paired.length rws
    exact oinit_ok T I1 ea (by rw [sizeLine_eq]; omega) fun s' J => ⟨V.non, _, J, rfl, q⟩⟩
end
/-! ### raise x("..") -/
/-- what is known of an own class at C that is made with a text -/
structure ExM (K : PySem.W.Frag) (C : Addr) (bm : List Value) : Prop where
  q : PySem.W.excIn K C bm "ValueError.__new__" = true
  kC : PySem.W.keepIn K (.ref C) = true
  exC : PySem.W.subIn K (.ref C) (.type "BaseException") = some true
  tyC : PySem.W.typeIn K (.ref C) = some (.type "type")
def sRaiseM (c : Str) : SF := fun ρ S => .exn c [] ρ S
def sRaiseR (c f : Str) (u : EF) : SF := fun ρ S => SOut.letV (u ρ S) ρ fun x S1 => match x with
  | .dat d => .exn c [(f, .d d)] ρ S1
  | _ => .stuck
section
variable {X : Cx} {G : Gh} {W : WX} {RR : RL} {C : Addr} {x m : Str} {j : Nat} {p p2 pos pos2 : Pos} {e : Expr} {u : EF}
theorem dRaiseM {bm : List Value} {ii : String} (F : ExcBaseFacts "ValueError" "ValueError.__new__" ii bm) (T : ExM X.K C bm) (hm : X.mg x = some (.ref C)) (hc : X.calm = true) (tk : Takes X W) (hg : Gl X x := by rfl) (hdb : (x == ("__debug__" : Str)) = false := by decide) :
    DS1 RR X G W (.Raise (some (.Call (.Name x p) [.Constant (.str m) j p2] [] pos)) none pos2) (sRaiseM x) :=
  PS.weak (ps_raise hc tk (pmk_own F T.q hm T.kC (raises_own T.exC T.tyC) hg hdb)) fun D σ H ⟨ρ, S, eo, q⟩ => q _ _ σ H eo (Pers.refl H) ⟨C, hm, rfl, .inl ⟨rfl, rfl⟩⟩
end
/-! ### raise x(e), the class's own __init__ keeps e as f -/
def spInit (C : Addr) (f : Str) : Sp := fun vs H Q _ => ∃ a y, vs = [.ref a, y] ∧ H a = some (exo a C none) ∧ ∀ dx, H dx = none → dx ≠ a → Q .non (upd (upd H dx (exd dx [(f, y)])) a (exo a C (some dx)))
def clsBody : Stmt → List Stmt
  | .ClassDef (body := b) .. => b
  | _ => []
/-- what is known of an own class at C with an __init__ at fI -/
structure ExI (K : PySem.W.Frag) (C fI : Addr) : Prop where
  cls : OexC K C
  ini : PySem.W.findIn K (.ref C) "__init__" = some (some (.ref fI))
  ty : PySem.W.typeIn K (.ref fI) = some (.type "function")
theorem gone {H : Hp} {a dx : Addr} {o1 o2 o3 o4 : HO} (ha : H a = none) (ne : dx ≠ a) : upd (del (upd (upd (upd H a o1) dx o2) a o3) a) dx o4 = upd H dx o4 := by
  funext b
  by_cases h1 : b = dx
  · subst h1
    rw [upd_same, upd_same]
  · rw [upd_ne h1, upd_ne h1]
    by_cases h2 : b = a
    · subst h2
      rw [del_same, ha]
    · rw [del_ne h2, upd_ne h2, upd_ne h1, upd_ne h2]
section
variable {X : Cx} {G : Gh} {W : WX} {RR : RL} {C fI : Addr} {fd : FuncData} {x f : Str} {p pos pos2 : Pos} {e : Expr} {u : EF}
theorem dRaiseR (T : ExI X.K C fI) (FO : FnOk X.prog X.w X.K X.mg X.base CX0 1 fI fd ["self", f] (spInit C f)) (hb : Binds X.K fd ["self", f] []) (hm : X.mg x = some (.ref C)) (hr : Room 2 X.A) (hc : X.calm = true) (tk : Takes X W) (he : DE X G W e u)
    (hg : Gl X x := by rfl) (hdb : (x == ("__debug__" : Str)) = false := by decide) (hs : starEach (e :: []) X.env = (false, eval e X.env) :: starEach [] X.env := by rfl) (hpl : (backTo pos (starEach [] X.env)).any (·.1) = false := by rfl) :
    DS1 RR X G W (.Raise (some (.Call (.Name x p) [e] [] pos)) none pos2) (sRaiseR x f u) :=
  PS.weak (ps_raise hc tk (pmk_oex (dvs := []) T.cls T.ini T.ty FO hr hb .nil (fun _ _ _ _ _ _ _ h => h.elim) hg hm (pa_cons he pa_nil hs) hdb hs hpl)) fun D σ H ⟨ρ, S, eo, q⟩ => by
    show TR DF X.km G W u σ H _
    refine TR.of ⟨ρ, S, eo, SOut.use eo q fun y v S1 H1 _ eo1 e1 r1 q1 => ?_⟩
    cases y with
    | dat d =>
      refine ⟨by simp, fun a ha => ⟨a, v, rfl, upd_same, fun dx n ne => ?_⟩⟩
      have n1 : H1 dx = none := by rwa [upd_ne ne] at n
      refine ⟨rfl, dx, [(f, v)], upd_same, by rw [upd_ne ne, upd_same], n1, ?_⟩
      rw [gone ha ne]
      have sm : Same H1 (upd H1 dx (.xd [(f, v)])) := fun b o z => by rw [upd_ne (ne_of_none z n1)]; exact z
      have ex := Ext.of_same (G := G) sm
      refine q1 _ _ σ _ (eo1.ext ex (ext_src eo1.src sm)) (Same.pers sm) ⟨C, hm, rfl, .inr ⟨dx, [(f, v)], rfl, upd_same, fun m => ?_⟩⟩
      by_cases hm : m = f
      · subst hm
        simp only [List.lookup, beq_self_eq_true]
        exact ⟨v, rfl, Den.pers (Same.pers sm) _ _ r1⟩
      · have z : (m == f) = false := by simpa using hm
        simp [List.lookup, z]
    | _ => exact q1.elim
end
end L2.HL

/-! two names at once; own lists and dicts by index -/
namespace L2.HL
open PySem PySem.Spec PyProof.Rows
def sPar (i j : Nat) (u v : EF) : SF := fun ρ S => SOut.letV (u ρ S) ρ fun x S1 => SOut.letV (v ρ S1) ρ fun y S2 => .nx ((ρ.set i (.fz x)).set j (.fz y)) S2
section
variable {X : Cx} {G : Gh} {W : WX} {RR : RL} {i j : Nat} {x y : Str} {a b : Expr} {u v : EF} {px py pt pos pt2 : Pos} {kt k2 : Nat}
/-- x, y = a, b -/
theorem dPar (ha : DE X G W a u) (hb : DE X G W b v) (hc : X.calm = true) (hN : X.N.Nodup)
    (hij : i ≠ j := by decide) (hi : X.N[i]? = some x := by rfl) (hj : X.N[j]? = some y := by rfl) (hx : X.env.scope.names.lookup x = some .local := by rfl) (hy : X.env.scope.names.lookup y = some .local := by rfl)
    (hw : swappedStores [.Tuple [.Name x px, .Name y py] kt pt] (.Tuple [a, b] k2 pt2) X.env = pure (some [x, y]) := by rfl) (hs : swapsWithSole [.Tuple [.Name x px, .Name y py] kt pt] (.Tuple [a, b] k2 pt2) pos.line X.env = pure false := by rfl)
    (hsa : starEach [a, b] X.env = (false, eval a X.env) :: starEach [b] X.env := by rfl) (hsb : starEach [b] X.env = (false, eval b X.env) :: starEach [] X.env := by rfl) :
    DS1 RR X G W (.Assign [.Tuple [.Name x px, .Name y py] kt pt] (.Tuple [a, b] k2 pt2) pos) (sPar i j u v) :=
  PS.weak (ps_par hc hN hi hj hij hx hy (pa_cons ha (pa_cons hb pa_nil hsb) hsa) hw hs) fun D σ H ⟨ρ, S, eo, q⟩ => by
    show TR DF X.km G W u σ H _
    refine TR.of ⟨ρ, S, eo, SOut.use eo q fun x1 v1 S1 H1 _ eo1 e1 r1 q1 => ?_⟩
    show TR DF X.km G W v σ H1 _
    exact TR.of ⟨ρ, S1, eo1, SOut.use eo1 q1 fun x2 v2 S2 H2 _ eo2 e2 r2 q2 => ⟨v1, v2, rfl, FinS.next q2 ((eo2.set (Den2.ext eo1.src e2 r1)).set r2)⟩⟩
end
/-! ### x[k] = e, x an own list -/
def putL (ds : List PyData) (k : Vl) (x : Vl) : Option (List PyData) := match k, x with
  | .dat (.int i), .dat d => (ixN ds.length i).map fun j => ds.set j d
  | _, _ => none
def sPutL (n : Nat) (ui u : EF) : SF := fun ρ S => SOut.letV (u ρ S) ρ fun x S1 => match ρ[n]? with
  | some (.ow (.dat (.list ds))) => SOut.letV (ui ρ S1) ρ fun k S2 => match putL ds k x with
    | some es => .nx (ρ.set n (.ow (.dat (.list es)))) S2
    | none => .stuck
  | _ => .stuck
section
variable {X : Cx} {G : Gh} {W : WX} {RR : RL} {x : Str} {e k : Expr} {u ui : EF} {px p2 pos : Pos}
theorem dPutL (n : Nat) (he : DE X G W e u) (hk : DV X G W k ui) (hN : X.N[n]? = some x := by rfl) (hv : Vis X.env.scope x := by first | exact Or.inl rfl | exact Or.inr (Or.inl rfl) | exact Or.inr (Or.inr rfl))
    (hd : (x == ("__debug__" : Str)) = false := by decide) (hcd : (x == ("__classdict__" : Str)) = false := by decide)
    (ha : ∀ v, assign (.Subscript (.Name x px) k p2) X.env v = (do
      let ov ← holding [v] (eval (.Name x px) X.env)
      let iv ← holding [v, ov] (eval k X.env)
      standAt p2
      holding [v, ov, iv] (setItem ov iv v)
      release [v, ov, iv] []) := by intro _; rfl)
    (hs : swapsWithSole [.Subscript (.Name x px) k p2] e pos.line X.env = pure false := by rfl) (hw : swappedStores [.Subscript (.Name x px) k p2] e X.env = pure none := by rfl)
    (h1 : (assignEach [.Subscript (.Name x px) k p2] X.env).map (·.2) = [assign (.Subscript (.Name x px) k p2) X.env] := by rfl) :
    DS1 RR X G W (.Assign [.Subscript (.Name x px) k p2] e pos) (sPutL n ui u) :=
  PS.weak (ps_asg he (pg_sub (pe_var hN hv hd hcd) hk set_list ha) hs hw h1) fun D σ H ⟨ρ, S, eo, q⟩ => by
    show TR DF X.km G W u σ H _
    refine TR.of ⟨ρ, S, eo, SOut.use eo q fun x1 v1 S1 H1 _ eo1 e1 r1 q1 => ?_⟩
    split at q1
    · rename_i ds hρ
      obtain ⟨a, s1, s2, _⟩ := eo1.slot n _ hρ
      refine ⟨_, s1, ?_⟩
      show TR DB X.km G W ui σ H1 _
      refine TR.of ⟨ρ, S1, eo1, SOut.use eo1 q1 fun x2 v2 S2 H2 _ eo2 e2 r2 q2 => ?_⟩
      cases hp : putL ds x2 x1 with
      | none => rw [hp] at q2; exact q2.elim
      | some es =>
        rw [hp] at q2
        unfold putL at hp
        split at hp
        · rename_i i d h9 h8
          cases hj : ixN ds.length i with
          | none => rw [hj] at hp; cases hp
          | some j =>
            rw [hj] at hp
            cases hp
            obtain ⟨b, t1, t2, ys, t3, t4⟩ := eo2.slot n _ hρ
            rw [s1] at t1
            cases t1
            have dv : Den X.K H2 d v1 := Den2.ext (x := .dat d) eo1.src e2 r1
            have pu : Pers H2 (upd H2 a (.lst (ys.set j v1))) := by
              refine ⟨fun c zs z => ?_, fun c o w z => ?_⟩
              · rw [upd_ne (fun y => by rw [y, t3] at z; cases z)]; exact z
              · rw [upd_ne (fun y => by rw [y, t3] at z; cases z)]; exact z
            have od : OwnD X.km.K (upd H2 a (.lst (ys.set j v1))) a (.dat (.list (ds.set j d))) := ⟨_, upd_same, DenL.pers pu _ _ (DenL.set j t4 dv)⟩
            obtain ⟨eo3, p3⟩ := eo2.mut hρ s1 od
            exact ⟨a, ys, i, j, rfl, DB.int r2, t3, by rw [← t4.length]; exact hj, q2 _ _ eo3 p3⟩
        · cases hp
    · exact q1.elim
end
end L2.HL

/-! dict comprehensions whose keys are flat or tuples -/
namespace L2.HL
open PySem PySem.Spec PyProof.Rows
section
variable {X : Cx} {pins : List (Addr × Obj)} {σ : St} {H H' : Hp} {s : Shared} {E : Value → Shared → Prop} {Q : Unit → Shared → Prop} {D : Addr} {y v : V} {u r : Value}
/-- a key and a value are laid down -/
theorem put_dict (hu : X.A.units + 1 < cLine) (I : Inv X pins σ H s) (g : DPut H D y v H') (ry : RelV y u) (rv : RelV v r) (h : ∀ s', Inv X pins σ H' s' → Q () s') : wpAny (model X.prog X.w) X.A (dictSet D u r) Q E s := by
  rcases g with ⟨kvs, k, eD, rfl, few, rfl⟩ | ⟨kvs, k, b, eD, rfl, eb, few, rfl⟩
  · exact d_dictSet I eD few ry rv h
  · cases ry
    obtain ⟨z, nm, xs, rel, dd⟩ := dt_of I.hok eD
    have n1 : kvs.length = xs.length := Paired.length rel
    have n2 := length_putK kvs k v
    refine wpAny_dictSet_heap (hsz := by omega) (show X.A.units < cLine by omega) (key_of I.hok eb) dd fun h' dd' sb => h _ ?_
    obtain ⟨q, es, ep, hq, g1, g2, g3, _, g4⟩ := dd'
    have keep : ∀ (c : Addr) (ys : List V), H c = some (.tup ys) → upd H D (.dT (putK kvs k v)) c = some (.tup ys) := fun c ys ec => by rw [upd_ne (ne_of ec eD (fun z => nomatch z))]; exact ec
    exact d_write I (by rw [eD]; exact True.intro) sb ⟨q, hq⟩ ⟨by omega, nm, _, (rel.put k eb rv).keeps keep, q, es, ep, hq, g1, g2, g3, g4⟩
end
/-! ### the block of a comprehension -/
/-- the loop stands at place i: its frame is Y, the iterator's own objects are fp -/
structure Stand (Y : Cx) (fp : List Addr) (tn : Nat → Heap → Prop) (σ : St) (i : Nat) (H : Hp) (s : Shared) : Prop where
  inv : Inv Y [] σ H s
  tn : tn i s.heap
  fr : ∀ b ∈ fp, H b = none
/-- a block's frame: no exception goes out of it, the iterator's objects are nobody's -/
structure BlkC (Y : Cx) (fp : List Addr) : Prop where
  ex : Y.ex = fp
  pn : Y.pn = []
  xe : Y.xe = fun _ _ => False
theorem Stand.fp {Y : Cx} {fp : List Addr} {tn : Nat → Heap → Prop} {σ : St} {i : Nat} {H : Hp} {s : Shared} (B : BlkC Y fp) (S : Stand Y fp tn σ i H s) : ∀ b ∈ fp, FpOk Y [] H b := fun b m => by
  have m' : b ∈ Y.ex := by rw [B.ex]; exact m
  have o := S.inv.ok
  exact ⟨S.fr b m, (o.exf b m').1, o.exfs b m', .inl m', fun x c e => (o.exf b m').2 x c e, fun p hp => by rw [B.pn] at hp; simp at hp⟩
section
variable {Y : Cx} {fp : List Addr} {tn : Nat → Heap → Prop} {σ : St} {it : Addr} {J : It} {tg : Expr} {g : TG} {i : Nat} {H : Hp} {s : Shared} {Q : Unit → Shared → Prop}
/-- one item is taken and bound; what the turn leaves is told to the rest -/
theorem Stand.take (B : BlkC Y fp) (hc : Y.calm = true) (T : Turn Y.prog Y.w Y.K tg J fp it tn) (S : Stand Y fp tn σ i H s) (go : J.go i H) (hg : PG Y tg g) {vs : List Nat} {σ0 : St} (e0 : σ = wipe σ0 vs)
    {F : Shared → Prop} {Kq : St → Hp → Prop} (h : ∀ x H', J.yld i H x H' → g x σ H' fun σ2 H2 => wipe σ2 vs = σ ∧ Kq σ2 H2)
    (k : ∀ σ2 H2 s2 pins, Kq σ2 H2 → Inv Y pins σ2 H2 s2 → (∀ s3 H3, Inv Y pins σ2 H3 s3 → Stand Y fp tn σ (i + 1) H3 s3) → F s2) :
    wpAny (model Y.prog Y.w) Y.A (pyNext (.ref it)) (fun r s1 => ∃ u, r = some u ∧ wpAny (model Y.prog Y.w) Y.A (letOwnedTupleGo tg (.ref it) u) (fun _ s2 => wpAny (model Y.prog Y.w) Y.A (assign tg Y.env u) (fun _ s3 => F s3) Y.xe s2) Y.xe s1) Y.xe s := by
  refine thn (T.item Y rfl rfl rfl hc i [] s σ H _ S.inv (S.fp B) S.tn go) fun r s1 ⟨u, er, w⟩ => ⟨u, er, thn w fun _ s2 ⟨x, H2, I2, rx, yl, t2, n2⟩ => ?_⟩
  have S2 : Stand Y fp tn σ (i + 1) H2 s2 := ⟨I2, t2, n2⟩
  have P := I2.pinned (S2.fp B) (T.obj _ _ t2)
  refine thn (hg.run _ s2 σ H2 x u _ P rx (h x H2 yl)) fun _ s3 ⟨σ3, H3, I3, hw, q⟩ => k σ3 H3 s3 _ q I3 fun s4 H4 I4 => ?_
  have held : ∀ b ∈ fp, ∀ o, s2.heap.get? b = some o → s4.heap.get? b = some o ∧ H4 b = none := fun b m o e =>
    have z := I4.pin (b, o) (List.mem_append_right _ (List.mem_append_right _ (mem_pinsAt m e)))
    ⟨z.1, z.2.1⟩
  refine ⟨(I4.unpinned (pins := [])).weak (by rw [← hw, wipe_length]) fun j v e => ?_, T.keep _ _ _ t2 fun b m o e => (held b m o e).1, fun b m => ?_⟩
  · rw [← hw] at e
    exact (wipe_some e).1
  · obtain ⟨o, e, _⟩ := T.obj _ _ t2 b m
    exact (held b m o e).2
end
/-! ### {k: v for t in it if c} -/
/-- what the comprehension is asked: a kind of dict for the start (true: its keys are tuples), a measure, and what each turn does -/
def DgTurn (J : It) (D : Addr) (g : TG) (tt : TT) (tk tv : TE) (σw : St) (vs : List Nat) (Wi : Nat → Nat → Hp → Prop) (Qe : Hp → Prop) : Prop := ∀ i m H, Wi i m H →
  (J.stop i H ∧ Qe H) ∨ (J.go i H ∧ ∃ Nx : Hp → Prop, (∀ H', Nx H' → ∃ m', m' < m ∧ Wi (i + 1) m' H') ∧ ∀ x H', J.yld i H x H' → g x σw H' fun σ2 H2 => wipe σ2 vs = σw ∧ tt σ2 H2 fun b H3 =>
    if b = true then tk σ2 H3 fun y H4 => tv σ2 H4 fun z H5 => ∃ H6, DPut H5 D y z H6 ∧ Nx H6 else Nx H3)
def dg0 : Bool → HO
  | true => .dT []
  | false => .dK []
def tDg (wi : TI) (g : TG) (tt : TT) (tk tv : TE) (vs : List Nat) : TE := fun σ H Q => wi σ H fun J H1 => ∀ D, H1 D = none → ∃ (k : Bool) (Wi : Nat → Nat → Hp → Prop), (∃ m, Wi 0 m (upd H1 D (dg0 k))) ∧ DgTurn J D g tt tk tv (wipe σ vs) vs Wi fun H' => Q (.ref D) H'
section
variable {Y : Cx} {fp : List Addr} {tn : Nat → Heap → Prop} {σw : St} {it D : Addr} {J : It} {tg kx vx iter : Expr} {ifs : List Expr} {scope : Scope} {pos : Pos} {g : TG} {tt : TT} {tk tv : TE} {vs : List Nat} {Wi : Nat → Nat → Hp → Prop} {Qe : Hp → Prop} {R : Result → Shared → Prop}
theorem dg_loop (B : BlkC Y fp) (hc : Y.calm = true) (hu : Y.A.units + 1 < cLine) (T : Turn Y.prog Y.w Y.K tg J fp it tn) (e0 : ∃ σ0, σw = wipe σ0 vs) (hg : PG Y tg g) (ht : PTs Y ifs tt) (hk : PE Y kx tk) (hv : PE Y vx tv)
    (turn : DgTurn J D g tt tk tv σw vs Wi Qe) (out : ∀ s H, Inv Y [] σw H s → Qe H → R (.ok .next) s)
    {s : Shared} {H : Hp} {m : Nat} (S : Stand Y fp tn σw 0 H s) (w : Wi 0 m H) :
    codeAny (model Y.prog Y.w) Y.A (.compLoop (.DictComp kx vx [⟨tg, iter, ifs, 0⟩] scope pos) 0 (.ref it) (.ref D) Y.env) R s := by
  obtain ⟨σ0, e0⟩ := e0
  have lift : ∀ {α : Type} {t : Sem α} {Q' : α → Shared → Prop} {E' : Value → Shared → Prop} {s' : Shared}, wpAny (model Y.prog Y.w) Y.A t Q' Y.xe s' → wpAny (model Y.prog Y.w) Y.A t Q' E' s' := fun h => wpAny_mono h (fun _ _ z => z) fun _ _ z => by rw [B.xe] at z; exact z.elim
  refine compLoop_anyD (fun n s' => ∃ i H', Stand Y fp tn σw i H' s' ∧ Wi i n H') (fun n s' ⟨i, H', S', w'⟩ => ?_) m ⟨0, H, S, w⟩
  rcases turn i n H' w' with ⟨stop, q⟩ | ⟨go, Nx, less, step⟩
  · refine thnF (T.done Y rfl rfl rfl hc i [] s' _ H' (fun _ _ => False) S'.inv (S'.fp B) S'.tn stop) fun r s2 ⟨er, I2⟩ => ?_
    subst er
    exact out s2 H' I2 q
  · let F : Shared → Prop := fun s2 => wpAny (model Y.prog Y.w) Y.A (forIn ifs true fun c r => if r = true then do let ok ← isTrue c Y.env (eval c Y.env); pure (ForInStep.yield ok) else pure (ForInStep.yield r)) (fun ok s3 =>
        if ok = true then wpAny (model Y.prog Y.w) Y.A (eval kx Y.env) (fun kv s4 => wpAny (model Y.prog Y.w) Y.A (eval vx Y.env) (fun vv s5 => wpAny (model Y.prog Y.w) Y.A (dictSet D kv vv) (fun _ s6 => ∃ m, m < n ∧ ∃ i H', Stand Y fp tn σw i H' s6 ∧ Wi i m H') Y.xe s5) Y.xe s4) Y.xe s3
        else ∃ m, m < n ∧ ∃ i H', Stand Y fp tn σw i H' s3 ∧ Wi i m H') Y.xe s2
    have took := S'.take B hc T go hg e0 (F := F) step fun σ2 H2 s2 pins q I2 back => by
      have fin : ∀ s3 H3, Inv Y pins σ2 H3 s3 → Nx H3 → ∃ m, m < n ∧ ∃ i H', Stand Y fp tn σw i H' s3 ∧ Wi i m H' := fun s3 H3 I3 x => by
        obtain ⟨m', lt, w2⟩ := less H3 x
        exact ⟨m', lt, _, H3, back s3 H3 I3, w2⟩
      refine thn (ht.run pins s2 σ2 H2 _ I2 q) fun b s3 ⟨H3, I3, q3⟩ => ?_
      cases b with
      | false => exact fin s3 H3 I3 (by simpa using q3)
      | true =>
        rw [if_pos rfl] at q3 ⊢
        exact thn (hk.run pins s3 σ2 H3 _ I3 q3) fun u4 s4 ⟨y, H4, I4, ry, q4⟩ => thn (hv.run pins s4 σ2 H4 _ I4 q4) fun u5 s5 ⟨z, H5, I5, rz, H6, put, x⟩ => put_dict hu I5 put ry rz fun s6 I6 => fin s6 H6 I6 x
    refine lift (thn took fun r s2 ⟨u, er, h⟩ => ?_)
    subst er
    refine lift (thn h fun _ s3 h3 => lift (thn h3 fun _ s4 h4 => lift (thn h4 fun ok s5 h5 => ?_)))
    cases ok with
    | false => exact h5
    | true =>
      rw [if_pos rfl] at h5 ⊢
      exact lift (thn h5 fun _ s6 h6 => lift (thn h6 fun _ s7 h7 => lift h7))
end

/-! ### the block is entered, and left -/
theorem fresh_dict {X : Cx} {pins : List (Addr × Obj)} {σ : St} {H : Hp} {s : Shared} (k : Bool) (I : Inv X pins σ H s) : Inv X pins σ (upd H s.heap.objs.size (dg0 k)) { s with heap := s.heap.push { cls := .type "dict", data := .dict #[] } } := by
  have keep : ∀ b o, s.heap.get? b = some o → (s.heap.push { cls := .type "dict", data := .dict #[] }).get? b = some o := fun _ _ q => Heap.get?_push_of_some _ q
  cases k
  · exact I.laid (t' := s.toks) keep (Nat.le_refl _) (dk_empty s.heap I.big)
  · exact I.laid (t' := s.toks) keep (Nat.le_refl _) (dt_empty s.heap I.big)
section
variable {X : Cx} {pins : List (Addr × Obj)} {σ : St} {H : Hp} {s : Shared} {scope : Scope} {own : List (Str × Nat)} {fp : List Addr} {tn : Nat → Heap → Prop}
/-- the cells and the frame of a block that begins in s -/
def blkEnv (X : Cx) (s : Shared) (scope : Scope) : Env := compEnvC scope (cellsFrom (s.heap.objs.size + 1) scope.names (cloFrom X.env.cells scope.names [])) s.heap.objs.size X.env
def blkIn (s : Shared) (scope : Scope) : Shared := { s with heap := pushCells (s.heap.push { cls := .type "dict", data := .dict #[] }) scope.names }
theorem blk_enter (I : Inv X pins σ H s) (ok : BlkOk X.N X.env.scope scope own) (hN : X.N.Nodup) (hf : ∀ b ∈ fp, FpOk X pins H b ∧ b < s.heap.objs.size) (t : tn 0 s.heap) (keep : ∀ h', (∀ b ∈ fp, ∀ o, s.heap.get? b = some o → h'.get? b = some o) → tn 0 h') :
    Stand (X.blk s H scope (blkEnv X s scope) fp) fp tn (wipe σ (own.map (·.2))) 0 H (blkIn s scope) where
  inv := block_start I ok hN hf
  tn := keep _ fun b _ o e => pushCells_keeps _ _ _ _ (Heap.get?_push_of_some _ e)
  fr := fun b m => (hf b m).1.1
/-- behind the block: the frame's own dict, and the state is ours again -/
theorem blk_leave (I : Inv X pins σ H s) (hf : ∀ b ∈ fp, FpOk X pins H b) {σ' : St} {H' : Hp} {s' : Shared} (J : Inv (X.blk s H scope (blkEnv X s scope) fp) [] σ' H' s') :
    (∃ m, s'.heap.Ns s.heap.objs.size m) ∧ Inv X pins σ H' s' ∧ FpOk X pins H' s.heap.objs.size := by
  have z : (X.blk s H scope (blkEnv X s scope) fp).env.locals = s.heap.objs.size := rfl
  have nothing : H' s.heap.objs.size = none := z ▸ J.free
  have back : Inv X pins σ H' s' := I.call' (ch := fp) J.os J.base J.hok J.bare fun b m =>
    have ⟨_, a1, _, a3, a4, a5⟩ := hf b m
    ⟨a3, a1, a4, a5⟩
  obtain ⟨m, q, _⟩ := J.loc
  exact ⟨⟨m, z ▸ q⟩, back, I.fpOk (Nat.le_refl _) nothing⟩
variable {kx vx tg iter : Expr} {ifs : List Expr} {pos : Pos} {wi : TI} {g : TG} {tt : TT} {tk tv : TE}
/-- the comprehension, by what is done behind its block (C: the block's own dict) -/
theorem dg_core {use : Option (Value → Sem Unit)} {Q : VK} {Qf : Value → Shared → Prop} {pos' : Pos} (hc : X.calm = true) (hu : X.A.units + 1 < cLine) (hN : X.N.Nodup) (hi : PI X tg iter wi) (ok : BlkOk X.N X.env.scope scope own)
    (hg : ∀ (s : Shared) (H : Hp) (C : Addr) (cl : List (Str × Addr)) (fp : List Addr), PG (X.blk s H scope (compEnvC scope cl C X.env) fp) tg g)
    (ht : ∀ (s : Shared) (H : Hp) (C : Addr) (cl : List (Str × Addr)) (fp : List Addr), PTs (X.blk s H scope (compEnvC scope cl C X.env) fp) ifs tt)
    (hk : ∀ (s : Shared) (H : Hp) (C : Addr) (cl : List (Str × Addr)) (fp : List Addr), PE (X.blk s H scope (compEnvC scope cl C X.env) fp) kx tk)
    (hv : ∀ (s : Shared) (H : Hp) (C : Addr) (cl : List (Str × Addr)) (fp : List Addr), PE (X.blk s H scope (compEnvC scope cl C X.env) fp) vx tv)
    (hs : ∀ x, foldedSetIterable iter X.env x = pure x) (I : Inv X pins σ H s) (h : tDg wi g tt tk tv (own.map (·.2)) σ H Q)
    (behind : ∀ D C s' m H', Inv X pins σ H' s' → Q (.ref D) H' → s'.heap.Ns C m → FpOk X pins H' C → compPost (model X.prog X.w) X.A X.xe use Qf (.ref D) C (.ok .next) s') :
    wpAny (model X.prog X.w) X.A (comprehension (.DictComp kx vx [⟨tg, iter, ifs, 0⟩] scope pos) scope X.env pos' newDict false (eval iter X.env) use) Qf X.xe s := by
  have cells : ∀ y ∈ scope.names, y.2 = .free → ∃ c, X.env.cells.lookup y.1 = some c := fun y m e => (ok.free y m e).elim (fun z => I.ok.has _ (.inl z)) fun z => I.ok.has _ (.inr z)
  refine wpAny_comprehension_free rfl hs (closure_ok cells) ok.kind (fun y m e => (ok.uniq y m).trans (congrArg some e)) (thn (hi.run pins s σ H _ I h) fun _ s1 w1 => thn w1 fun _ s2 w2 => ?_)
  obtain ⟨it, fp, tn, J, H2, rfl, I2, T, t2, f2, q⟩ := w2
  refine wpAny_newObj_type (newEnv_comp ?_)
  obtain ⟨kd, Wi, ⟨m, w⟩, turn⟩ := q s2.heap.objs.size (I2.hok.fresh (Nat.le_refl _))
  have low : ∀ b ∈ fp, b < s2.heap.objs.size := fun b m => (T.obj _ _ t2 b m).elim fun _ z => Heap.lt_size z.1
  have I3 := fresh_dict kd I2
  have t3 : tn 0 (s2.heap.push { cls := .type "dict", data := .dict #[] }) := T.keep _ _ _ t2 fun _ _ _ e => Heap.get?_push_of_some _ e
  have f3 : ∀ b ∈ fp, FpOk X pins (upd H2 s2.heap.objs.size (dg0 kd)) b := fun b m => ⟨(upd_ne (Nat.ne_of_lt (low b m))).trans (f2 b m).1, (f2 b m).2⟩
  have S := blk_enter I3 ok hN (fun b m => ⟨f3 b m, by rw [Heap.size_push]; exact Nat.lt_succ_of_lt (low b m)⟩) t3 fun h' k => T.keep _ _ _ t3 k
  have run := dg_loop (Y := X.blk _ _ scope (blkEnv X _ scope) fp) (pos := pos) (scope := scope) (iter := iter) ⟨rfl, rfl, rfl⟩ hc hu T ⟨σ, rfl⟩ (hg _ _ _ _ _) (ht _ _ _ _ _) (hk _ _ _ _ _) (hv _ _ _ _ _) turn
    (R := compPost (model X.prog X.w) X.A X.xe use Qf (.ref s2.heap.objs.size) (blkEnv X _ scope).locals) (fun s' H' I' z => by
      have ⟨⟨m, n⟩, back, own⟩ := blk_leave I3 f3 I'
      exact behind _ _ s' m H' back z n own) S w
  exact codeAny_compStart_dict run (T.self X.A 0 _ _ _ S.tn run)
theorem pe_dg (hc : X.calm = true) (hu : X.A.units + 1 < cLine) (hN : X.N.Nodup) (hi : PI X tg iter wi) (ok : BlkOk X.N X.env.scope scope own)
    (hg : ∀ (s : Shared) (H : Hp) (C : Addr) (cl : List (Str × Addr)) (fp : List Addr), PG (X.blk s H scope (compEnvC scope cl C X.env) fp) tg g)
    (ht : ∀ (s : Shared) (H : Hp) (C : Addr) (cl : List (Str × Addr)) (fp : List Addr), PTs (X.blk s H scope (compEnvC scope cl C X.env) fp) ifs tt)
    (hk : ∀ (s : Shared) (H : Hp) (C : Addr) (cl : List (Str × Addr)) (fp : List Addr), PE (X.blk s H scope (compEnvC scope cl C X.env) fp) kx tk)
    (hv : ∀ (s : Shared) (H : Hp) (C : Addr) (cl : List (Str × Addr)) (fp : List Addr), PE (X.blk s H scope (compEnvC scope cl C X.env) fp) vx tv)
    (hs : ∀ x, foldedSetIterable iter X.env x = pure x := by intro _; rfl) : PE X (.DictComp kx vx [⟨tg, iter, ifs, 0⟩] scope pos) (tDg wi g tt tk tv (own.map (·.2))) := ⟨fun pins s σ H Q I h => by
  rw [arm_eval_DictComp]
  refine dg_core hc hu hN hi ok hg ht hk hv hs I h fun D C s' m H' J q n f => ⟨m, n, fun h' sb => ⟨.ref D, H', ?_, rfl, q⟩⟩
  obtain ⟨b0, b1, _, b3, b4, b5⟩ := f
  exact J.turned (t' := s'.toks) (fun b o ne e => (sb.2 b ne).trans e) b0 b1 b3 b4 b5⟩
/-- y = {k: v for ..}: y is stored while the block's dict still stands -/
theorem ps_setDg {i : Nat} {y : Str} {py spos : Pos} (hc : X.calm = true) (hu : X.A.units + 1 < cLine) (hN : X.N.Nodup) (hy : X.N[i]? = some y) (hyl : X.env.scope.names.lookup y = some .local)
    (hsw : swapsWith (.DictComp kx vx [⟨tg, iter, ifs, 0⟩] scope pos) (some (.Name y py)) spos.line X.env = pure true) (hi : PI X tg iter wi) (ok : BlkOk X.N X.env.scope scope own)
    (hg : ∀ (s : Shared) (H : Hp) (C : Addr) (cl : List (Str × Addr)) (fp : List Addr), PG (X.blk s H scope (compEnvC scope cl C X.env) fp) tg g)
    (ht : ∀ (s : Shared) (H : Hp) (C : Addr) (cl : List (Str × Addr)) (fp : List Addr), PTs (X.blk s H scope (compEnvC scope cl C X.env) fp) ifs tt)
    (hk : ∀ (s : Shared) (H : Hp) (C : Addr) (cl : List (Str × Addr)) (fp : List Addr), PE (X.blk s H scope (compEnvC scope cl C X.env) fp) kx tk)
    (hv : ∀ (s : Shared) (H : Hp) (C : Addr) (cl : List (Str × Addr)) (fp : List Addr), PE (X.blk s H scope (compEnvC scope cl C X.env) fp) vx tv)
    (hs : ∀ x, foldedSetIterable iter X.env x = pure x) : PS X (.Assign [.Name y py] (.DictComp kx vx [⟨tg, iter, ifs, 0⟩] scope pos) spos) (tAsg (tDg wi g tt tk tv (own.map (·.2))) (gName i)) := ⟨fun pins s σ H D I h => by
  rw [exec_Assign_Name_used _ _ _ _ hsw]
  refine wpAny_bind (wpAny_standAt (wpAny_bind ?_))
  show wpAny _ X.A (do let _ ← comprehension (.DictComp kx vx [⟨tg, iter, ifs, 0⟩] scope pos) scope X.env (firstIterPos [⟨tg, iter, ifs, 0⟩] pos) newDict false (eval iter X.env) (some (assign (.Name y py) X.env))) _ _ s
  refine wpAny_bind (thn (dg_core (Q := fun x H1 => gName i x σ H1 D.nx) (Qf := fun _ s' => SP X pins D .next s') hc hu hN hi ok hg ht hk hv hs I h fun A C s' m H' J q n f => ?_) fun _ s' z => wpAny_pure (wpAny_pure z))
  obtain ⟨b0, b1, _, b3, b4, b5⟩ := f
  refine wpAny_assign_Name (store_ok2 (v := V.ref A) J hN hy (.inl hyl) rfl (fun s2 I2 ⟨c, sb, hc⟩ => ?_) (.inr hyl))
  have apart : C ≠ c := hc.elim (fun z => z ▸ b1) fun z e => b4 y c z e.symm
  exact ⟨m, n.sameBut sb apart, fun h3 sb3 => ⟨_, H', I2.turned (t' := s2.toks) (fun b o ne e => (sb3.2 b ne).trans e) b0 b1 b3 b4 b5, q⟩⟩⟩
end
end L2.HL

/-! dicts as data that grow: comprehensions, d[k] = v, displays -/
namespace L2.HL
open PySem PySem.Spec PyProof.Rows
/-! ### a key is put -/
def putP (kvs : List (PyData × PyData)) (k d : PyData) : List (PyData × PyData) := if (kvs.any fun kv => PyData.eqv kv.1 k) = true then kvs.map fun kv => if PyData.eqv kv.1 k = true then (kv.1, d) else kv else kvs ++ [(k, d)]
/-- the two kinds of keys: flat ones, tuples of flat ones -/
def kOk : Bool → PyData → Bool
  | false, .int _ => true
  | false, .str _ => true
  | true, .tuple (d :: ds) => (flatKs (d :: ds)).isSome
  | _, _ => false
section
variable {K : PySem.W.Frag} {H H' : Hp}
theorem DenK.cons_iff {k d : PyData} {r : List (PyData × PyData)} {ks : List (Key × V)} : DenK K H ((k, d) :: r) ks ↔ ∃ k' v s, ks = (k', v) :: s ∧ k = keyD k' ∧ Den K H d v ∧ DenK K H r s := by
  constructor
  · intro h; unfold DenK at h; exact h
  · intro h; unfold DenK; exact h
theorem DenT.cons_iff {k d : PyData} {r : List (PyData × PyData)} {ks : List (List Key × V)} : DenT K H ((k, d) :: r) ks ↔ ∃ k' v s, ks = (k', v) :: s ∧ k = .tuple (k'.map keyD) ∧ Den K H d v ∧ DenT K H r s := by
  constructor
  · intro h; unfold DenT at h; exact h
  · intro h; unfold DenT; exact h
theorem eqv_keyT (a b : List Key) : PyData.eqv (.tuple (a.map keyD)) (.tuple (b.map keyD)) = decide (a = b) := by rw [PyData.eqv, eqvAll_keyD]
theorem DenK.any (k : Key) : ∀ {kvs : List (PyData × PyData)} {ks : List (Key × V)}, DenK K H kvs ks → (kvs.any fun kv => PyData.eqv kv.1 (keyD k)) = ks.any fun kv => decide (kv.1 = k)
  | [], ks, h => by unfold DenK at h; subst h; rfl
  | (k0, d0) :: r, ks, h => by
    obtain ⟨k', v, s, rfl, rfl, _, h2⟩ := DenK.cons_iff.mp h
    rw [List.any_cons, List.any_cons, DenK.any k h2, eqv_keyD]
theorem DenT.any (k : List Key) : ∀ {kvs : List (PyData × PyData)} {ks : List (List Key × V)}, DenT K H kvs ks → (kvs.any fun kv => PyData.eqv kv.1 (.tuple (k.map keyD))) = ks.any fun kv => decide (kv.1 = k)
  | [], ks, h => by unfold DenT at h; subst h; rfl
  | (k0, d0) :: r, ks, h => by
    obtain ⟨k', v, s, rfl, rfl, _, h2⟩ := DenT.cons_iff.mp h
    rw [List.any_cons, List.any_cons, DenT.any k h2, eqv_keyT]
theorem DenK.over (k : Key) {d : PyData} {v : V} (hd : Den K H d v) : ∀ {kvs : List (PyData × PyData)} {ks : List (Key × V)}, DenK K H kvs ks → DenK K H (kvs.map fun kv => if PyData.eqv kv.1 (keyD k) = true then (kv.1, d) else kv) (ks.map fun kv => if kv.1 = k then (kv.1, v) else kv)
  | [], ks, h => by unfold DenK at h; subst h; unfold DenK; rfl
  | (k0, d0) :: r, ks, h => by
    obtain ⟨k', u, s, rfl, rfl, h1, h2⟩ := DenK.cons_iff.mp h
    rw [List.map_cons, List.map_cons]
    by_cases e : k' = k
    · rw [if_pos (by rw [eqv_keyD]; exact decide_eq_true e), if_pos e]
      exact DenK.cons_iff.mpr ⟨_, _, _, rfl, rfl, hd, DenK.over k hd h2⟩
    · rw [if_neg (by rw [eqv_keyD]; simpa using e), if_neg e]
      exact DenK.cons_iff.mpr ⟨_, _, _, rfl, rfl, h1, DenK.over k hd h2⟩
theorem DenT.over (k : List Key) {d : PyData} {v : V} (hd : Den K H d v) : ∀ {kvs : List (PyData × PyData)} {ks : List (List Key × V)}, DenT K H kvs ks → DenT K H (kvs.map fun kv => if PyData.eqv kv.1 (.tuple (k.map keyD)) = true then (kv.1, d) else kv) (ks.map fun kv => if kv.1 = k then (kv.1, v) else kv)
  | [], ks, h => by unfold DenT at h; subst h; unfold DenT; rfl
  | (k0, d0) :: r, ks, h => by
    obtain ⟨k', u, s, rfl, rfl, h1, h2⟩ := DenT.cons_iff.mp h
    rw [List.map_cons, List.map_cons]
    by_cases e : k' = k
    · rw [if_pos (by rw [eqv_keyT]; exact decide_eq_true e), if_pos e]
      exact DenT.cons_iff.mpr ⟨_, _, _, rfl, rfl, hd, DenT.over k hd h2⟩
    · rw [if_neg (by rw [eqv_keyT]; simpa using e), if_neg e]
      exact DenT.cons_iff.mpr ⟨_, _, _, rfl, rfl, h1, DenT.over k hd h2⟩
theorem DenK.last {k : Key} {d : PyData} {v : V} (hd : Den K H d v) : ∀ {kvs : List (PyData × PyData)} {ks : List (Key × V)}, DenK K H kvs ks → DenK K H (kvs ++ [(keyD k, d)]) (ks ++ [(k, v)])
  | [], ks, h => by unfold DenK at h; subst h; exact DenK.cons_iff.mpr ⟨_, _, [], rfl, rfl, hd, by unfold DenK; rfl⟩
  | (k0, d0) :: r, ks, h => by
    obtain ⟨k', u, s, rfl, rfl, h1, h2⟩ := DenK.cons_iff.mp h
    exact DenK.cons_iff.mpr ⟨_, _, _, rfl, rfl, h1, DenK.last hd h2⟩
theorem DenT.last {k : List Key} {d : PyData} {v : V} (hd : Den K H d v) : ∀ {kvs : List (PyData × PyData)} {ks : List (List Key × V)}, DenT K H kvs ks → DenT K H (kvs ++ [(.tuple (k.map keyD), d)]) (ks ++ [(k, v)])
  | [], ks, h => by unfold DenT at h; subst h; exact DenT.cons_iff.mpr ⟨_, _, [], rfl, rfl, hd, by unfold DenT; rfl⟩
  | (k0, d0) :: r, ks, h => by
    obtain ⟨k', u, s, rfl, rfl, h1, h2⟩ := DenT.cons_iff.mp h
    exact DenT.cons_iff.mpr ⟨_, _, _, rfl, rfl, h1, DenT.last hd h2⟩
theorem DenK.put {kvs : List (PyData × PyData)} {ks : List (Key × V)} (h : DenK K H kvs ks) (k : Key) {d : PyData} {v : V} (hd : Den K H d v) : DenK K H (putP kvs (keyD k) d) (putK ks k v) := by
  unfold putP putK
  rw [h.any k]
  split
  · exact h.over k hd
  · exact h.last hd
theorem DenT.put {kvs : List (PyData × PyData)} {ks : List (List Key × V)} (h : DenT K H kvs ks) (k : List Key) {d : PyData} {v : V} (hd : Den K H d v) : DenT K H (putP kvs (.tuple (k.map keyD)) d) (putK ks k v) := by
  unfold putP putK
  rw [h.any k]
  split
  · exact h.over k hd
  · exact h.last hd
/-- a dict that may grow, with the kind of its keys -/
def HasD (K : PySem.W.Frag) (H : Hp) (a : Addr) (kvs : List (PyData × PyData)) : Bool → Prop
  | false => ∃ ks, H a = some (.dK ks) ∧ DenK K H kvs ks
  | true => ∃ ks, H a = some (.dT ks) ∧ DenT K H kvs ks
theorem HasD.own {a : Addr} {kvs : List (PyData × PyData)} : ∀ {kd : Bool}, HasD K H a kvs kd → OwnD K H a (.dic kvs)
  | false, h => .inl h
  | true, h => .inr h
theorem HasD.of {a : Addr} {kvs : List (PyData × PyData)} (h : OwnD K H a (.dic kvs)) : ∃ kd, HasD K H a kvs kd := by
  rcases h with h | h
  · exact ⟨false, h⟩
  · exact ⟨true, h⟩
theorem HasD.ext {G : Gh} {S : Src} {a : Addr} {kvs : List (PyData × PyData)} (hs : SrcOk G H S) (e : Ext G H H') (n0 : a ≠ G.a0) (nc : a ≠ G.c0) : ∀ {kd : Bool}, HasD K H a kvs kd → HasD K H' a kvs kd
  | false, ⟨ks, h, d⟩ => ⟨ks, e _ _ h n0 nc, DenK.pers (Ext.pers hs e) _ _ d⟩
  | true, ⟨ks, h, d⟩ => ⟨ks, e _ _ h n0 nc, DenT.pers (Ext.pers hs e) _ _ d⟩
theorem HasD.new {p : Addr} : ∀ kd : Bool, HasD K (upd H p (dg0 kd)) p [] kd
  | false => ⟨[], upd_same, by unfold DenK; rfl⟩
  | true => ⟨[], upd_same, by unfold DenT; rfl⟩
/-- a dict object is told anew: nothing that stays is lost -/
theorem pers_dict {a : Addr} {o : HO} (h : (∃ ks, H a = some (.dK ks)) ∨ ∃ ks, H a = some (.dT ks)) : Pers H (upd H a o) := by
  refine ⟨fun b xs z => ?_, fun b w u z => ?_⟩ <;> rw [upd_ne (fun y => by rcases h with ⟨ks, h⟩ | ⟨ks, h⟩ <;> rw [y, h] at z <;> cases z)] <;> exact z
theorem HasD.put {X : Cx} {G : Gh} {a : Addr} {kvs : List (PyData × PyData)} {k d : PyData} {y v : V} (few : kvs.length < 16000000) (hy : DB X.km G H H (.dat k) y) (hd : Den X.K H d v) : ∀ {kd : Bool}, HasD X.K H a kvs kd → kOk kd k = true →
    ∃ o, DPut H a y v (upd H a o) ∧ HasD X.K (upd H a o) a (putP kvs k d) kd ∧ Pers H (upd H a o)
  | false, ⟨ks, h, dk⟩, ok => by
    obtain ⟨q, rfl⟩ : ∃ q, k = keyD q := by
      cases k <;> simp [kOk] at ok
      · exact ⟨.inl _, rfl⟩
      · exact ⟨.inr _, rfl⟩
    have p := pers_dict (o := .dK (putK ks q v)) (.inl ⟨ks, h⟩)
    refine ⟨_, .inl ⟨ks, q, h, flat_val hy, by rw [← dk.length, ← sizeN]; omega, rfl⟩, ⟨_, upd_same, DenK.pers p _ _ (dk.put q hd)⟩, p⟩
  | true, ⟨ks, h, dk⟩, ok => by
    cases k with
    | tuple l =>
      cases l with
      | nil => simp [kOk] at ok
      | cons c cs =>
        obtain ⟨q, hq⟩ := Option.isSome_iff_exists.mp (show (flatKs (c :: cs)).isSome = true from ok)
        obtain ⟨b, ey, hb⟩ := tup_key hy hq
        rw [flatKs_of hq]
        have p := pers_dict (o := .dT (putK ks q v)) (.inr ⟨ks, h⟩)
        exact ⟨_, .inr ⟨ks, q, b, h, ey, hb, by rw [← dk.length, ← sizeN]; omega, rfl⟩, ⟨_, upd_same, DenT.pers p _ _ (dk.put q hd)⟩, p⟩
    | _ => simp [kOk] at ok
end
/-! ### {k: v for t in it if c} -/
def dcL (kd : Bool) (t : Tgt) (vs : List Nat) (c : BF) (uk uv : EF) : List PyData → List (PyData × PyData) → En → Src → Out (List (PyData × PyData))
  | [], acc, _, S => .ok acc S
  | d :: ds, acc, ρ, S => match bindT t (.dat d) (wipeE ρ vs) with
    | none => .stuck
    | some ρ1 => match c ρ1 S with
      | .ok false S1 => dcL kd t vs c uk uv ds acc ρ S1
      | .ok true S1 => match uk ρ1 S1 with
        | .ok (.dat k) S2 => match uv ρ1 S2 with
          | .ok (.dat y) S3 => if (kOk kd k && decide (acc.length < 16000000)) = true then dcL kd t vs c uk uv ds (putP acc k y) ρ S3 else .stuck
          | _ => .stuck
        | _ => .stuck
      | _ => .stuck
def fDc (kd : Bool) (lf : LF) (t : Tgt) (vs : List Nat) (c : BF) (uk uv : EF) : EF := fun ρ S => (lf ρ S).bind fun ds S1 => (dcL kd t vs c uk uv ds [] ρ S1).bind fun ys S2 => .ok (.dic ys) S2
section
variable {X : Cx} {G : Gh} {W : WX} {RR : RL} {pos : Pos} {tg iter : Expr} {lf : LF} {t : Tgt} {c : BF} {uk uv : EF} {kd : Bool}
/-- what a turn of the comprehension stands on -/
structure DcSt (X : KM) (G : Gh) (H1 : Hp) (D : Addr) (kd : Bool) (run : List (PyData × PyData) → Src → Prop) (H : Hp) : Prop where
  ext : Ext G H1 H
  has : ∃ S acc, SrcOk G H S ∧ HasD X.K H D acc kd ∧ run acc S
theorem dc_of {vs : List Nat} (ht : ∀ i ∈ t.slots, i ∈ vs) {σ : St} {H : Hp} {Q : VK} (q : TR DN X.km G W (fDc kd lf t vs c uk uv) σ H Q) :
    tDg (TIE X.km G W lf) (gT X.K t) (TT1 X.km G W0 c) (TR DF X.km G W0 uk) (TR DF X.km G W0 uv) vs σ H Q := by
  refine TG1.bind ups_dn q.g fun ρ ds J S S1 H1 eo eo1 e1 sv q1 => ?_
  intro D hD
  have n0 : D ≠ G.a0 := fun z => by rw [z, eo1.src.2.1] at hD; cases hD
  have nc : D ≠ G.c0 := fun z => by rw [z, eo1.src.2.2] at hD; cases hD
  -- the rest of the items, from acc on, ends well
  let run : List PyData → List (PyData × PyData) → Src → Prop := fun es acc S2 => FinG (DN X.km G) X.km G W σ H1 ((dcL kd t vs c uk uv es acc ρ S2).bind fun ys S3 => Out.ok (Vl.dic ys) S3) Q
  have fresh : Ext G H1 (upd H1 D (dg0 kd)) := Ext.of_same (same_new hD)
  refine ⟨kd, fun i m H' => i ≤ ds.length ∧ m = ds.length - i ∧ DcSt X.km G H1 D kd (run (ds.drop i)) H', ⟨_, Nat.zero_le _, rfl, fresh, S1, [], ext_src eo1.src (same_new hD), HasD.new kd, q1⟩, ?_⟩
  rintro i m H' ⟨hil, rfl, ex, S2, acc, hs, hd, r⟩
  obtain ⟨s1, s2⟩ := sv i H' S2 ex hs
  rcases Nat.lt_or_ge i ds.length with hlt | hge
  · obtain ⟨g1, g2⟩ := s2 ds[i] (List.getElem?_eq_getElem hlt)
    refine .inr ⟨g1, DcSt X.km G H1 D kd (run (ds.drop (i + 1))), fun H3 h3 => ⟨_, by omega, hlt, rfl, h3⟩, fun x H3 hy => ?_⟩
    obtain ⟨sm, dx⟩ := g2 x H3 hy
    have hs3 := ext_src hs sm
    have ex3 := ex.trans (Ext.of_same sm)
    have d3 := hd.ext hs (Ext.of_same (G := G) sm) n0 nc
    have r' := r
    rw [List.drop_eq_getElem_cons hlt] at r'
    have r' : FinG (DN X.km G) X.km G W σ H1 ((dcL kd t vs c uk uv (ds[i] :: ds.drop (i + 1)) acc ρ S2).bind fun ys S3 => Out.ok (Vl.dic ys) S3) Q := r'
    unfold dcL at r'
    cases hb : bindT t (.dat ds[i]) (wipeE ρ vs) with
    | none => rw [hb] at r'; exact r'.elim
    | some ρ3 =>
      rw [hb] at r'
      refine bind_of ((eo1.ext ex3 hs3).wipe vs) (x := .dat ds[i]) dx hb fun σ4 eo4 hw => ⟨(hw vs ht).trans (wipe_sub fun _ z => z), TT1.of ⟨ρ3, S2, eo4, ?_⟩⟩
      dsimp only at r'
      cases hc : c ρ3 S2 with
      | stuck => rw [hc] at r'; exact r'.elim
      | exn c' a S' => rw [hc] at r'; exact r'.elim
      | ok b S3 =>
        rw [hc] at r'
        intro b' H4 e4 s4 eb
        subst eb
        have ex4 := ex3.trans e4
        have d4 := d3.ext hs3 e4 n0 nc
        cases b' with
        | false => exact ⟨ex4, S3, acc, s4, d4, r'⟩
        | true =>
          refine TR.of ⟨ρ3, S3, eo4.ext e4 s4, ?_⟩
          dsimp only at r'
          cases hk : uk ρ3 S3 with
          | stuck => rw [hk] at r'; exact r'.elim
          | exn c' a S' => rw [hk] at r'; exact r'.elim
          | ok k S4 =>
            rw [hk] at r'
            intro y H5 e5 s5 ry
            have d5 := d4.ext s4 e5 n0 nc
            refine TR.of ⟨ρ3, S4, (eo4.ext e4 s4).ext e5 s5, ?_⟩
            cases k with
            | dat k =>
              dsimp only at r'
              cases hv : uv ρ3 S4 with
              | stuck => rw [hv] at r'; exact r'.elim
              | exn c' a S' => rw [hv] at r'; exact r'.elim
              | ok w S5 =>
                rw [hv] at r'
                intro z H6 e6 s6 rz
                have d6 := d5.ext s5 e6 n0 nc
                cases w with
                | dat w =>
                  dsimp only at r'
                  split at r'
                  · rename_i ok
                    rw [Bool.and_eq_true] at ok
                    obtain ⟨o, put, d7, p7⟩ := d6.put (X := X) (of_decide_eq_true ok.2) (.inl (Den2.ext s5 e6 ry)) rz ok.1
                    refine ⟨_, put, fun b o' z m1 m2 => ?_, S5, _, ⟨s6.1, by rw [upd_ne (Ne.symm n0)]; exact s6.2.1, by rw [upd_ne (Ne.symm nc)]; exact s6.2.2⟩, d7, r'⟩
                    rw [upd_ne (fun w => by rw [w, hD] at z; cases z)]
                    exact ((ex4.trans e5).trans e6) b o' z m1 m2
                  · exact r'.elim
                | _ => exact r'.elim
            | _ => exact r'.elim
  · have r' := r
    rw [List.drop_eq_nil_of_le hge] at r'
    exact .inl ⟨s1 (Nat.le_antisymm hil hge), r' (.ref D) H' ex hs (.inl ⟨rfl, D, rfl, hD, hd.own⟩)⟩
theorem dDc {kx vx : Expr} {ifs : List Expr} {scope : Scope} {own : List (Str × Nat)} (hc : X.calm = true) (hu : X.A.units + 200 < cLine) (hN : X.N.Nodup) (ok : BlkOk X.N X.env.scope scope own) (hi : DIe X G W tg iter lf)
    (hg : Blk X scope fun Y => DG Y tg t) (ht : Blk X scope fun Y => DTs Y G W0 ifs c) (hk : Blk X scope fun Y => DE Y G W0 kx uk) (he : Blk X scope fun Y => DE Y G W0 vx uv) (hv : ∀ i ∈ t.slots, i ∈ own.map (·.2)) (hs : ∀ x, foldedSetIterable iter X.env x = pure x := by intro _; rfl) :
    DO X G W (.DictComp kx vx [⟨tg, iter, ifs, 0⟩] scope pos) (fDc kd lf t (own.map (·.2)) c uk uv) :=
  PE.weak (pe_dg (g := gT X.K t) (tt := TT1 X.km G W0 c) (tk := TR DF X.km G W0 uk) (tv := TR DF X.km G W0 uv) hc (by omega) hN hi ok hg ht hk he hs) fun σ H Q q => dc_of hv q
/-- y = [..], y = {..} by comprehension, where y is stored ahead of the block's end: shared, own -/
theorem asg_set {i : Nat} {te : TE} {u : EF} (h : ∀ {σ : St} {H : Hp} {Q : VK}, TR DN X.km G W u σ H Q → te σ H Q) {D : Ends} {σ : St} {H : Hp} (q : TSR RR X.km G W (sOwn i u) D σ H) : tAsg te (gName i) D σ H := by
  have z : tAsg (TR DN X.km G W u) (gName i) D σ H := own_of q
  exact h z
theorem dSetDc {i : Nat} {y : Str} {py spos : Pos} {kx vx : Expr} {ifs : List Expr} {scope : Scope} {own : List (Str × Nat)} (hc : X.calm = true) (hu : X.A.units + 200 < cLine) (hN : X.N.Nodup) (ok : BlkOk X.N X.env.scope scope own) (hi : DIe X G W tg iter lf)
    (hg : Blk X scope fun Y => DG Y tg t) (ht : Blk X scope fun Y => DTs Y G W0 ifs c) (hk : Blk X scope fun Y => DE Y G W0 kx uk) (he : Blk X scope fun Y => DE Y G W0 vx uv) (hv : ∀ i ∈ t.slots, i ∈ own.map (·.2)) (hs : ∀ x, foldedSetIterable iter X.env x = pure x := by intro _; rfl)
    (hy : X.N[i]? = some y := by rfl) (hyl : X.env.scope.names.lookup y = some .local := by rfl) (hsw : swapsWith (.DictComp kx vx [⟨tg, iter, ifs, 0⟩] scope pos) (some (.Name y py)) spos.line X.env = pure true := by rfl) :
    DS1 RR X G W (.Assign [.Name y py] (.DictComp kx vx [⟨tg, iter, ifs, 0⟩] scope pos) spos) (sOwn i (fDc kd lf t (own.map (·.2)) c uk uv)) :=
  PS.weak (ps_setDg (g := gT X.K t) (tt := TT1 X.km G W0 c) (tk := TR DF X.km G W0 uk) (tv := TR DF X.km G W0 uv) hc (by omega) hN hy hyl hsw hi ok hg ht hk he hs) fun D σ H q => asg_set (dc_of hv) q
end
/-! ### {} and d[k] = v, d an own dict -/
def fDic0 : EF := fun _ S => .ok (.dic []) S
def putV (kvs : List (PyData × PyData)) (k x : Vl) : Option (List (PyData × PyData)) := match k, x with
  | .dat k, .dat d => if (tblOk kvs k && decide (kvs.length < 16000000)) = true then some (putP kvs k d) else none
  | _, _ => none
def sPutD (n : Nat) (ui u : EF) : SF := fun ρ S => SOut.letV (u ρ S) ρ fun x S1 => match ρ[n]? with
  | some (.ow (.dic kvs)) => SOut.letV (ui ρ S1) ρ fun k S2 => match putV kvs k x with
    | some es => .nx (ρ.set n (.ow (.dic es))) S2
    | none => .stuck
  | _ => .stuck
section
variable {X : Cx} {G : Gh} {W : WX} {RR : RL} {pos : Pos}
theorem dDic0 : DO X G W (.Dict [] [] pos) fDic0 := PE.weak pe_dnewK fun σ H Q ⟨ρ, S, eo, q⟩ p hp =>
  q (.ref p) _ (Ext.of_same (same_new hp)) (ext_src eo.src (same_new hp)) (.inl ⟨rfl, p, rfl, hp, (HasD.new false).own⟩)
/-- an empty dict is one of either kind -/
theorem retold {pins : List (Addr × Obj)} {σ : St} {H : Hp} {s : Shared} {a : Addr} (I : Inv X pins σ H s) : ∀ {kd : Bool}, HasD X.K H a [] kd → ∀ kd' : Bool, ∃ o, Inv X pins σ (upd H a o) s ∧ HasD X.K (upd H a o) a [] kd' ∧ Pers H (upd H a o) := by
  have nothing : Heap.SameBut a s.heap s.heap := ⟨rfl, fun _ _ => rfl⟩
  have core : ∀ {ks : List (Key × V)} {ts : List (List Key × V)} (kd' : Bool), (H a = some (.dK []) ∨ H a = some (.dT [])) → ∃ o, Inv X pins σ (upd H a o) s ∧ HasD X.K (upd H a o) a [] kd' ∧ Pers H (upd H a o) := by
    intro ks ts kd' h
    have p : Pers H (upd H a (dg0 kd')) := pers_dict (h.imp (fun z => ⟨_, z⟩) fun z => ⟨_, z⟩)
    have mu : Mut (H a) := by rcases h with h | h <;> rw [h] <;> trivial
    refine ⟨dg0 kd', d_write (t' := s.toks) I mu nothing ?_ ?_, HasD.new kd', p⟩
    · rcases h with h | h
      · obtain ⟨_, _, _, _, o, _, _, e, _⟩ := I.hok a _ h
        exact ⟨o, e⟩
      · obtain ⟨_, _, _, _, o, _, _, e, _⟩ := I.hok a _ h
        exact ⟨o, e⟩
    · rcases h with h | h
      · obtain ⟨z, nm, vs, rel, dd⟩ := I.hok a _ h
        cases rel
        cases kd'
        · exact ⟨z, nm, [], .nil, dd⟩
        · obtain ⟨o, es, ep, g1, g2, g3, g4, _, g5⟩ := tup_nil rfl dd
          exact ⟨z, nm, [], .nil, o, es, ep, g1, g2, g3, g4, g5⟩
      · obtain ⟨z, nm, xs, rel, dd⟩ := I.hok a _ h
        cases rel
        cases kd'
        · obtain ⟨o, es, ep, g1, g2, g3, g4, g5⟩ := dd
          exact ⟨z, nm, [], .nil, mix_nil rfl ⟨o, es, ep, g1, g2, g3, g4, fun x hx => absurd hx List.not_mem_nil, g5⟩⟩
        · exact ⟨z, nm, [], .nil, dd⟩
  intro kd h kd'
  cases kd
  · obtain ⟨ks, h, d⟩ := h
    have : ks = [] := by unfold DenK at d; exact d
    exact core (ks := []) (ts := []) kd' (.inl (this ▸ h))
  · obtain ⟨ks, h, d⟩ := h
    have : ks = [] := by unfold DenT at d; exact d
    exact core (ks := []) (ts := []) kd' (.inr (this ▸ h))
/-- the kind that a key wants -/
theorem tbl_kind {kvs : List (PyData × PyData)} {k : PyData} {K : PySem.W.Frag} {H : Hp} {a : Addr} {kd : Bool} (ok : tblOk kvs k = true) (h : HasD K H a kvs kd) : ∃ kd', kOk kd' k = true ∧ (kvs = [] ∨ kd' = kd) := by
  cases k with
  | int i =>
    refine ⟨false, rfl, ?_⟩
    cases kvs with
    | nil => exact .inl rfl
    | cons p r =>
      cases kd
      · exact .inr rfl
      · obtain ⟨ks, _, d⟩ := h
        obtain ⟨k0, d0⟩ := p
        obtain ⟨k', v, s, _, rfl, _⟩ := DenT.cons_iff.mp d
        simp [tblOk] at ok
  | str i =>
    refine ⟨false, rfl, ?_⟩
    cases kvs with
    | nil => exact .inl rfl
    | cons p r =>
      cases kd
      · exact .inr rfl
      · obtain ⟨ks, _, d⟩ := h
        obtain ⟨k0, d0⟩ := p
        obtain ⟨k', v, s, _, rfl, _⟩ := DenT.cons_iff.mp d
        simp [tblOk] at ok
  | tuple ds =>
    cases ds with
    | nil => simp [tblOk] at ok
    | cons c cs =>
      cases kvs with
      | nil => exact ⟨true, ok, .inl rfl⟩
      | cons p r =>
        obtain ⟨k0, d0⟩ := p
        cases kd
        · obtain ⟨ks, _, d⟩ := h
          obtain ⟨k', v, s, _, rfl, _⟩ := DenK.cons_iff.mp d
          cases k' <;> simp [tblOk, keyD] at ok
        · obtain ⟨ks, _, d⟩ := h
          obtain ⟨k', v, s, _, rfl, _⟩ := DenT.cons_iff.mp d
          exact ⟨true, ok, .inr rfl⟩
  | none => simp [tblOk] at ok
  | bool b => simp [tblOk] at ok
  | list b => simp [tblOk] at ok
  | dict b => simp [tblOk] at ok
theorem Den2.pers2 {X : KM} {H H' : Hp} (p : Pers H H') {d : PyData} {v : V} (h : Den2 X G H (.dat d) v) : Den2 X G H' (.dat d) v := Den.pers p d v h
def rSetV (X : Cx) (G : Gh) : TSet := fun o i v H Q => ∃ a kvs k d es, o = .ref a ∧ OwnD X.K H a (.dic kvs) ∧ Den2 X.km G H (.dat k) i ∧ Den X.K H d v ∧ putV kvs (.dat k) (.dat d) = some es ∧ ∀ o', OwnD X.K (upd H a o') a (.dic es) → Q (upd H a o')
theorem set_dictV (hu : X.A.units + 200 < cLine) : PSet X (rSetV X G) := by
  intro pins s σ H o i v ov iv u Q I ro ri rv ⟨a, kvs, k, d, es, eo, od, hk, hd, hp, q⟩
  subst eo
  cases (show ov = Value.ref a from ro)
  have hp : (if (tblOk kvs k && decide (kvs.length < 16000000)) = true then some (putP kvs k d) else none) = some es := hp
  by_cases ok : (tblOk kvs k && decide (kvs.length < 16000000)) = true
  · rw [if_pos ok] at hp
    cases hp
    rw [Bool.and_eq_true] at ok
    obtain ⟨kd, hh⟩ := HasD.of od
    obtain ⟨kd', k1, k2⟩ := tbl_kind ok.1 hh
    have go : ∀ {H1 : Hp}, Inv X pins σ H1 s → HasD X.K H1 a kvs kd' → Pers H H1 → (∀ o', upd H1 a o' = upd H a o') → wpAny (model X.prog X.w) X.A (setItem (.ref a) iv u) (fun _ s' => ∃ H', Inv X pins σ H' s' ∧ Q H') X.xe s := fun {H1} I1 h1 p1 same => by
      obtain ⟨o', put, d7, _⟩ := h1.put (X := X) (G := G) (of_decide_eq_true ok.2) (.inl (Den2.pers2 (X := X.km) p1 hk)) (Den.pers p1 _ _ hd) k1
      refine d_setItem (by omega) I1 put ri rv fun s' I' => ⟨_, I', ?_⟩
      rw [same] at d7 ⊢
      exact q _ d7.own
    rcases k2 with rfl | rfl
    · obtain ⟨o', I1, h1, p1⟩ := retold I hh kd'
      exact go I1 h1 p1 fun o2 => by
        funext b
        by_cases e : b = a
        · subst e; rw [upd_same, upd_same]
        · rw [upd_ne e, upd_ne e, upd_ne e]
    · exact go I hh (Pers.refl H) fun _ => rfl
  · rw [if_neg ok] at hp
    cases hp
variable {x : Str} {e k : Expr} {u ui : EF} {px p2 : Pos}
/-- d[k] = e -/
theorem dPutD (n : Nat) (hu : X.A.units + 200 < cLine) (he : DE X G W e u) (hk : DE X G W k ui) (hN : X.N[n]? = some x := by rfl) (hv : Vis X.env.scope x := by first | exact Or.inl rfl | exact Or.inr (Or.inl rfl) | exact Or.inr (Or.inr rfl))
    (hd : (x == ("__debug__" : Str)) = false := by decide) (hcd : (x == ("__classdict__" : Str)) = false := by decide)
    (ha : ∀ v, assign (.Subscript (.Name x px) k p2) X.env v = (do
      let ov ← holding [v] (eval (.Name x px) X.env)
      let iv ← holding [v, ov] (eval k X.env)
      standAt p2
      holding [v, ov, iv] (setItem ov iv v)
      release [v, ov, iv] []) := by intro _; rfl)
    (hs : swapsWithSole [.Subscript (.Name x px) k p2] e pos.line X.env = pure false := by rfl) (hw : swappedStores [.Subscript (.Name x px) k p2] e X.env = pure none := by rfl)
    (h1 : (assignEach [.Subscript (.Name x px) k p2] X.env).map (·.2) = [assign (.Subscript (.Name x px) k p2) X.env] := by rfl) :
    DS1 RR X G W (.Assign [.Subscript (.Name x px) k p2] e pos) (sPutD n ui u) :=
  PS.weak (ps_asg he (pg_sub (pe_var hN hv hd hcd) hk (set_dictV (G := G) hu) ha) hs hw h1) fun D σ H ⟨ρ, S, eo, q⟩ => by
    show TR DF X.km G W u σ H _
    refine TR.of ⟨ρ, S, eo, SOut.use eo q fun x1 v1 S1 H1 _ eo1 e1 r1 q1 => ?_⟩
    split at q1
    · rename_i kvs hρ
      obtain ⟨a, s1, s2, _⟩ := eo1.slot n _ hρ
      refine ⟨_, s1, ?_⟩
      show TR DF X.km G W ui σ H1 _
      refine TR.of ⟨ρ, S1, eo1, SOut.use eo1 q1 fun x2 v2 S2 H2 _ eo2 e2 r2 q2 => ?_⟩
      cases hp : putV kvs x2 x1 with
      | none => rw [hp] at q2; exact q2.elim
      | some es =>
        rw [hp] at q2
        obtain ⟨b, t1, t2, od⟩ := eo2.slot n _ hρ
        rw [s1] at t1
        cases t1
        have hx : ∃ k d, x2 = .dat k ∧ x1 = .dat d := by
          unfold putV at hp
          split at hp
          · exact ⟨_, _, rfl, rfl⟩
          · cases hp
        obtain ⟨k, d, rfl, rfl⟩ := hx
        refine ⟨a, kvs, k, d, es, rfl, od, r2, Den2.ext (x := .dat d) eo1.src e2 r1, hp, fun o' od' => ?_⟩
        obtain ⟨eo3, p3⟩ := eo2.mut hρ s1 od'
        exact q2 _ _ eo3 p3
    · exact q1.elim
end
/-! ### a name that is stored ahead of its block's end, shared from then on -/
def Boxed (u : EF) : Prop := ∀ ρ S x S', u ρ S = .ok x S' → x.box = true
theorem boxLc {lf : LF} {t : Tgt} {vs : List Nat} {c : BF} {u : EF} : Boxed (fLc lf t vs c u) := fun ρ S x S' h => by
  unfold fLc at h
  cases e : lf ρ S with
  | ok ds S1 =>
    rw [e] at h
    simp only [Out.bind_ok] at h
    cases e2 : lcL t vs c u ds [] ρ S1 with
    | ok ys S2 => rw [e2] at h; cases h; rfl
    | exn c f S2 => rw [e2] at h; cases h
    | stuck => rw [e2] at h; cases h
  | exn c f S1 => rw [e] at h; cases h
  | stuck => rw [e] at h; cases h
theorem boxDc {kd : Bool} {lf : LF} {t : Tgt} {vs : List Nat} {c : BF} {uk uv : EF} : Boxed (fDc kd lf t vs c uk uv) := fun ρ S x S' h => by
  unfold fDc at h
  cases e : lf ρ S with
  | ok ds S1 =>
    rw [e] at h
    simp only [Out.bind_ok] at h
    cases e2 : dcL kd t vs c uk uv ds [] ρ S1 with
    | ok ys S2 => rw [e2] at h; cases h; rfl
    | exn c f S2 => rw [e2] at h; cases h
    | stuck => rw [e2] at h; cases h
  | exn c f S1 => rw [e] at h; cases h
  | stuck => rw [e] at h; cases h
section
variable {X : Cx} {G : Gh} {W : WX} {RR : RL} {st : Stmt} {i j : Nat} {u : EF}
theorem dSetB (hb : Boxed u) (h : DS1 RR X G W st (sOwn i u)) : DS1 RR X G W st (sSet i u) := ⟨fun pins s σ H D I ⟨ρ, S, eo, q⟩ => by
  unfold sSet at q
  cases e : u ρ S with
  | stuck => rw [e] at q; exact q.elim
  | exn c f S1 => exact h.run pins s σ H D I ⟨ρ, S, eo, by unfold sOwn; rw [e]; rw [e] at q; exact q⟩
  | ok x S1 =>
    rw [e] at q
    let D' : Ends := { D with nx := fun σ' H' => EO X.km G H' σ' (ρ.set i (.ow x)) S1 ∧ Pers H H' }
    refine wpAny_mono (h.run pins s σ H D' I ⟨ρ, S, eo, ?_⟩) (fun f s' sp => ?_) fun _ _ z => z
    · unfold sOwn
      rw [e]
      simp only [SOut.letV_ok]
      rw [if_pos (hb ρ S x S1 e)]
      exact fun σ' H' a p => ⟨a, p⟩
    · cases f with
      | next =>
        obtain ⟨σ', H', J, eo', p⟩ := sp
        by_cases lt : i < ρ.length
        · obtain ⟨H2, J2, eo2, p2⟩ := EO.freeze J eo' (List.getElem?_set_self lt)
          rw [List.set_set] at eo2
          exact ⟨σ', H2, J2, q σ' H2 eo2 (p.trans p2)⟩
        · have same : ∀ s : Sl, ρ.set i s = ρ := fun s => List.set_eq_of_length_le (by omega)
          rw [same] at eo'
          exact ⟨σ', H', J, q σ' H' (by rw [same]; exact eo') p⟩
      | brk => exact sp
      | cont => exact sp
      | ret v => exact sp⟩
/-! ### x, y = a.pop(i), b.pop(j), by way of a tuple -/
variable {a b tgx : Expr} {f1 f2 : MF} {pos pt2 : Pos} {k2 : Nat}
theorem dParT (ha : DM X G W a f1) (hb : DM X G W b f2) (hg : DG X tgx (.many [i, j])) (hs : swapsWithSole [tgx] (.Tuple [a, b] k2 pt2) pos.line X.env = pure false := by rfl) (hw : swappedStores [tgx] (.Tuple [a, b] k2 pt2) X.env = pure none := by rfl)
    (h1 : (assignEach [tgx] X.env).map (·.2) = [assign tgx X.env] := by rfl) (hsa : starEach [a, b] X.env = (false, eval a X.env) :: starEach [b] X.env := by rfl) (hsb : starEach [b] X.env = (false, eval b X.env) :: starEach [] X.env := by rfl) :
    DS1 RR X G W (.Assign [tgx] (.Tuple [a, b] k2 pt2) pos) (sParM i j f1 f2) :=
  PS.weak (ps_asg (pe_tup (pa_cons ha (pa_cons hb pa_nil hsb) hsa)) hg hs hw h1) fun D σ H ⟨ρ, S, eo, q⟩ => by
    show TRM X.km G W f1 σ H _
    refine trm_use eo q fun u v S1 H1 _ eo1 d1 z => ?_
    show TRM X.km G W f2 σ H1 _
    obtain ⟨u1, ρ2⟩ := u
    cases u1 with
    | dat d =>
      refine ⟨ρ2, S1, eo1, ?_⟩
      dsimp only at z
      cases e2 : f2 ρ2 S1 with
      | stuck => rw [e2] at z; exact z
      | exn c a S' => rw [e2] at z; exact fun cls d H' y1 y2 y3 => z cls d σ H' (eo1.ext y1 y2) (Ext.pers eo1.src y1) y3
      | ok u2 S2 =>
        rw [e2] at z
        intro v2 H2 eo2 p2 d2
        refine ⟨(show 2 ≤ sizeLine by decide), fun p hp => ?_⟩
        have sm : Same H2 (upd H2 p (.tup [v, v2])) := same_new hp
        have eo3 := eo2.ext (Ext.of_same sm) (ext_src eo2.src sm)
        refine ⟨p, [v, v2], rfl, SqT.of upd_same, rfl, v, [v2], rfl, v2, [], rfl, rfl, ?_⟩
        exact FinS.next (FinS.up (p2.trans (Same.pers sm)) z) ((eo3.set (x := .dat d) (Den.pers (p2.trans (Same.pers sm)) d v d1)).set (d2.ext eo2.src (Ext.of_same sm)))
    | _ => exact z.elim
end
end L2.HL

/-! sorted(d) of a dict: its keys in order -/
namespace L2.HL
open PySem PySem.Spec PyProof.Rows
theorem reads_flat {h : Heap} {v : Value} {as : List Addr} {q : Key} (r : Reads h v (keyD q) as) : as = [] := by
  cases q
  · cases (show Reads h v (.int _) as from r); rfl
  · cases (show Reads h v (.str _) as from r); rfl
theorem reads_flats {h : Heap} : ∀ {qs : List Key} {vs : List Value} {as : List Addr}, ReadsAll h vs (qs.map keyD) as → as = []
  | [], _, _, r => by cases (show ReadsAll h _ [] _ from r); rfl
  | q :: qs, _, _, r => by
    cases (show ReadsAll h _ (keyD q :: qs.map keyD) _ from r) with
    | cons r1 r2 => rw [reads_flat r1, reads_flats r2]; rfl
theorem reads_tupK {h : Heap} {v : Value} {as : List Addr} {qs : List Key} (r : Reads h v (.tuple (qs.map keyD)) as) : as = [] := by
  cases r with
  | tuple h1 h2 h3 h4 => exact reads_flats h4
section
variable {X : Cx} {G : Gh} {W : WX} {pins : List (Addr × Obj)} {σ : St} {H : Hp} {s : Shared} {a : Addr} {kvs : List (PyData × PyData)}
/-- what keys look like -/
theorem DicR.shape (h : DicR X.K H a kvs) {k : PyData} (m : k ∈ kvs.map (·.1)) : (∃ q, k = keyD q) ∨ ∃ qs : List Key, k = .tuple (qs.map keyD) := by
  obtain ⟨i, hi⟩ := List.mem_iff_getElem?.mp m
  rw [List.getElem?_map] at hi
  obtain ⟨⟨k', d⟩, e1, rfl⟩ := Option.map_eq_some_iff.mp hi
  rcases h with ⟨ks, _, d1⟩ | ⟨ks, _, d1⟩
  · obtain ⟨q, _, _, e, _⟩ := denk_get d1 i k' d e1
    exact .inl ⟨q, e⟩
  · obtain ⟨q, _, _, e, _⟩ := dent_get d1 i k' d e1
    exact .inr ⟨q, e⟩
theorem cr_sortedD (hc : X.calm = true) (hu : X.A.units + 200 < cLine) : CallR X (.builtin "sorted") (fun xs H Q => ∃ (a : Addr) (kvs : List (PyData × PyData)), xs = [V.ref a] ∧ DicR X.K H a kvs ∧ sortOk (kvs.map (·.1)) = true ∧
    ∀ p vs, H p = none → DenL X.K H (sortP (kvs.map (·.1))) vs → Q (.ref p) (upd H p (.lst vs))) := by
  intro pins s σ H vs us Q I r h
  obtain ⟨a, kvs, rfl, dr, ok, q⟩ := h
  rw [Vals.ref1 r]
  obtain ⟨hs, hz, es, ep, raw, en, he⟩ := ents_of I dr
  refine Calls.call_function_entry kind_sorted plain_sorted entry_sorted (args_sorted1 _) ?_
  unfold Builtin.«sorted»
  refine wpAny_bind (m := checkCount "sorted" 1 1 _) (wpAny_pure (wpAny_bind (PySem.W.kdu_collect (A := X.A.in1) (PySem.KdlSrc.rawDict hs) (I.ok.hd hc) raw (by rw [en]; exact hz) fun h' tk acc kp it => ?_)))
  have I1 : Inv X pins σ H { s with heap := h', toks := tk } := I.kept kp
  have len : acc.toList.length = (kvs.map (·.1)).length := by have z := it.1; rw [Array.length_toList, List.length_map, z, en]
  obtain ⟨ws0, rv0, dv0⟩ := vals_get (K := X.K) (H := H) (ds := kvs.map (·.1)) (us := acc.toList) len.symm fun i d u e1 e2 => by
    rw [List.getElem?_map] at e1
    obtain ⟨⟨k, d'⟩, e3, rfl⟩ := Option.map_eq_some_iff.mp e1
    obtain ⟨hi, hv⟩ := it.2 i u (by rw [← Array.getElem?_toList]; exact e2)
    obtain ⟨ent, kx, vx, g1, g2, g3, _, _⟩ := he i k d' e3
    rw [Array.getElem?_eq_getElem hi] at g1
    cases g1
    exact ⟨kx, by rw [hv]; exact g2, g3⟩
  obtain ⟨c1, c2, c3⟩ := sort_conds ok
  have is := each_of dv0 rv0
  have at0 : (h'.push (seqObj "list" acc.toList.toArray 0)).get? h'.objs.size = some (seqObj "list" acc.toList.toArray 0) := Heap.get?_push_size _ rfl
  have rd : PySem.W.EachIs (fun u d => ∃ as, Reads (h'.push (seqObj "list" acc.toList.toArray 0)) u (id d) as ∧ h'.objs.size ∉ as) acc.toList (kvs.map (·.1)) := (PySem.W.each_mem is).mono fun u d ⟨⟨w, rw', dw⟩, m⟩ => by
    obtain ⟨as, ra⟩ := Dp.reads I1 d w u (Den.dp d w dw) rw'
    have none : as = [] := by
      rcases dr.shape m with ⟨q, rfl⟩ | ⟨qs, rfl⟩
      · exact reads_flat ra
      · exact reads_tupK ra
    exact ⟨as, Reads.keeps (fun _ _ e => Heap.get?_push_of_some _ e) ra, by rw [none]; simp⟩
  have small : acc.toList.length ≤ sizeLine := by rw [len, List.length_map]; exact hz
  refine wpAny_bind (wpAny_newList (wpAny_bind (wpAny_holding (PySem.W.list_sort_data (A := X.A.in1) (enc := id) at0 is rd c1 c2 (by rw [← len]; exact small) (fun d hd => by have := c3 d hd; show X.A.units + 1 + 1 + d.depth < cLine; omega) fun out ol oe => ?_))) small)
  obtain ⟨ws, dw, rw'⟩ := of_each oe
  obtain ⟨c, hcx⟩ := sortedHeap_at (vs := acc.toList) (out := out.toArray) at0
  have free : H h'.objs.size = none := I1.hok.fresh (Nat.le_refl _)
  have wl : ws.length ≤ sizeLine := by rw [rw'.length, ol, ← len]; exact small
  have old : ∀ b u, h'.get? b = some u → (sortedHeap (h'.push (seqObj "list" acc.toList.toArray 0)) h'.objs.size acc.toList out.toArray).get? b = some u := fun b u hb => by
    have lt := Heap.lt_size hb
    rw [sortedHeap_old (Nat.ne_of_lt lt) (by rw [size_push']; exact Nat.lt_succ_of_lt lt)]
    exact Heap.get?_push_of_some _ hb
  exact wpAny_pure ⟨_, rfl, .ref h'.objs.size, _, I1.laid (t' := tk) old (Nat.le_refl _) (show ObjOk X.prog X.w (upd H h'.objs.size (.lst ws)) _ _ (.lst ws) from ⟨wl, out, c, rw', hcx⟩), rfl, q _ ws free dw⟩
/-- sorted of a list, of a dict -/
def sortedF2 : List Vl → Option Vl
  | [.dic kvs] => if sortOk (kvs.map (·.1)) = true then some (.dat (.list (sortP (kvs.map (·.1))))) else none
  | xs => sortedF xs
theorem cl_sorted2 (hc : X.calm = true) (hu : X.A.units + 200 < cLine) : CallR X (.builtin "sorted") (rL X sortedF2 G) := by
  intro pins s σ H vs us Q I r h
  obtain ⟨xs, z, ab, hf, q⟩ := h
  unfold sortedF2 at hf
  split at hf
  · split at hf
    · rename_i ok
      cases hf
      obtain ⟨v, rfl, hd⟩ := ab.one
      obtain ⟨a, e1, dr⟩ := hd.dic
      subst e1
      exact cr_sortedD hc hu pins s σ H _ us Q I r ⟨a, _, rfl, dr, ok, fun p vs hp dv => q _ _ (same_new hp) (DN.lst hp dv)⟩
    · cases hf
  · exact cl_sorted hu pins s σ H vs us Q I r ⟨xs, z, ab, hf, q⟩
end
end L2.HL

/-! an error is caught and kept: try: .. except X as n: y = n; its fields; isinstance of it -/
namespace L2.HL
open PySem PySem.Spec PyProof.Rows
section
variable {X : Cx} {pins : List (Addr × Obj)} {σ : St} {H : Hp} {s : Shared} {a : Addr} {o : HO}
/-- an object that is nobody's and came behind the entry -/
structure Loose (X : Cx) (pins : List (Addr × Obj)) (a : Addr) : Prop where
  new : X.s_0.heap.get? a = none
  pin : ∀ p ∈ X.pn ++ pins, p.1 ≠ a
  loc : a ≠ X.env.locals
  cel : ∀ x c, X.env.cells.lookup x = some c → c ≠ a
/-- such a one is told from now on -/
theorem Inv.track (I : Inv X pins σ H s) (L : Loose X pins a) (n : H a = none) (ob : ObjOk X.prog X.w (upd H a o) s.heap a o) : Inv X pins σ (upd H a o) s := by
  have ne : ∀ {b : Addr} {u : HO}, H b = some u → b ≠ a := fun {b u} e z => by rw [z, n] at e; cases e
  have old : ∀ {b : Addr} {u : Obj}, X.s_0.heap.get? b = some u → b ≠ a := fun {b u} e z => by rw [z, L.new] at e; cases e
  have same : ∀ {b : Addr} {u : HO}, H b = some u → upd H a o b = some u := fun {b u} e => (upd_ne (ne e)).trans e
  exact {
    ok := I.ok, os := I.os, bare := I.bare, loc := I.loc, cell := I.cell, len := I.len
    base := {
      keep := I.base.keep, slot := I.base.slot, there := I.base.there
      free := fun b u e z x => (upd_ne (old e)).trans (I.base.free b u e z x)
      tups := fun b xs e => same (I.base.tups b xs e)
      frzs := fun b u w e => same (I.base.frzs b u w e)
      tbls := fun b ps e => let ⟨m, q⟩ := I.base.tbls b ps e; ⟨m, same q⟩ }
    free := (upd_ne (Ne.symm L.loc)).trans I.free
    freeC := fun x c e => (upd_ne (L.cel x c e)).trans (I.freeC x c e)
    pin := fun p m => let ⟨h1, h2, h3⟩ := I.pin p m; ⟨h1, (upd_ne (L.pin p m)).trans h2, h3⟩
    hok := fun b u e => by
      by_cases z : b = a
      · subst z
        rw [upd_same] at e
        cases e
        exact ob
      · rw [upd_ne z] at e
        exact (I.hok b u e).stay (fun _ _ _ q => q) (fun _ q => same q) fun _ _ q => same q }
theorem exV_ok {P : Program} {w : World} {H : Hp} {h : Heap} {C : Addr} {d : Option Addr} {oe : Obj} {vs : Array Value} (e : h.get? a = some oe) (z : Zc (.ref C) d oe) (dd : oe.data = .fields vs) : ObjOk P w H h a (ExV C d a) :=
  ⟨⟨oe, vs, e, z, dd⟩, ⟨oe, e⟩, fun _ _ ⟨u, v, q, r⟩ k => ⟨u, v, k u q, r⟩⟩
/-- the exception in the air is an object of nobody's -/
theorem air_loose {sI : Shared} {B : Heap} (J : Inv X pins σ H sI) (hx : X.ex = []) (nb : ∀ b u, sI.heap.get? b = some u → b ∉ frs X.stack → B.get? b = some u) (gone : B.get? a = none) (nf : a ∉ frs X.stack) (nL : a ≠ X.env.locals) : Loose X pins a := by
  have no : ∀ u, sI.heap.get? a ≠ some u := fun u e => by
    have := nb a u e nf
    rw [gone] at this
    cases this
  refine ⟨?_, fun p m z => no p.2 (z ▸ (J.pin p m).1), nL, fun x c e z => ?_⟩
  · cases e : X.s_0.heap.get? a with
    | none => rfl
    | some u =>
      obtain ⟨u', q⟩ := J.base.there a u e (by rw [hx]; exact List.not_mem_nil)
      exact absurd q (no u')
  · subst z
    obtain ⟨v, u, q, _⟩ := J.cell x c e
    exact no u q
/-- what the clause 'except x as n: y = n' wishes of an error: slot i is n's, slot k y's -/
def wKeep (K : PySem.W.Frag) (c : Value) (i k : Nat) (Wout : WX) (D : Ends) : WX := fun cls d σ H =>
  ∃ b, PySem.W.exmOne K cls c = some b ∧ (b = true → ∃ C, cls = .ref C ∧ ∀ a, H a = none → D.nx (((σ.set i (some (.ref a))).set k (some (.ref a))).set i none) (upd H a (ExV C d a))) ∧ (b = false → Wout cls d σ H)
variable {x n y : Str} {c : Value} {i k : Nat} {body : List Stmt} {np p1 p2 p3 pos pos' : Pos} {tb : WX → TS} {Wout : WX}
/-- the suite y = n, n's clause, the end of n -/
theorem keep_suite {D : Ends} {oe : Obj} {vs : Array Value} {C : Addr} {d : Option Addr} {H : Hp} {s5 : Shared} (ok : X.Ok) (hN : X.N.Nodup) (hi : X.N[i]? = some n) (hln : X.env.kindOf n = some .local) (hk : X.N[k]? = some y) (hly : Loc X.env.scope y)
    (hsw : swapsWith (.Name n p2) (some (.Name y p1)) p3.line X.env = pure false) (hfy : X.fn y = true ∨ X.env.scope.names.lookup y = some .local) (hnd : (n == ("__debug__" : Str)) = false) (hnc : (n == ("__classdict__" : Str)) = false)
    (L : Loose X pins a) (na : H a = none) (hz : Zc (.ref C) d oe) (hd : oe.data = .fields vs) (S5 : Inv (X.suite a ((a, oe) :: (X.pn ++ pins))) [] (σ.set i (some (.ref a))) H s5) (hl : i < σ.length)
    (q : D.nx (((σ.set i (some (.ref a))).set k (some (.ref a))).set i none) (upd H a (ExV C d a))) :
    wpAny (model X.prog X.w) (X.A.mark (some (.ref a))) (execs [.Assign [.Name y p1] (.Name n p2) p3] X.env) (fun f s6 => match f with
      | .next => wpAny (model X.prog X.w) X.A (do bindName X.env n .none; unbindBehindTheSuite X.env n pos') (fun _ s7 => ∃ σ7 H7, Inv X pins σ7 H7 s7 ∧ D.nx σ7 H7) X.xe s6
      | _ => False) (fun _ _ => False) s5 := by
  have P : PSs (X.suite a ((a, oe) :: (X.pn ++ pins))) [.Assign [.Name y p1] (.Name n p2) p3] (tAsg (tVar i) (gName k)) := pss_one (ps_set hN hk hly (pe_var hi (.inl hln) hnd hnc) hsw hfy)
  let D6 : Ends := { nx := fun σ6 H6 => σ6 = (σ.set i (some (.ref a))).set k (some (.ref a)) ∧ H6 = H, rt := fun _ _ => False, bk := fun _ _ => False, ct := fun _ _ => False }
  refine wpAny_mono (P.run [] s5 _ H D6 S5 ⟨.ref a, List.getElem?_set_self hl, rfl, rfl⟩) (fun f s6 sp => ?_) fun _ _ z => z
  cases f with
  | next =>
    obtain ⟨σ6, H6, S6, e1, e2⟩ := sp
    subst e1 e2
    have here : s6.heap.get? a = some oe := (S6.pin (a, oe) (List.mem_append_left _ List.mem_cons_self)).1
    exact gone_ok (Inv.track (S6.unsuite ok) L na (exV_ok here hz hd)) hN hi hln fun s7 J7 => ⟨_, _, J7, q⟩
  | brk => obtain ⟨_, _, _, z⟩ := sp; exact z
  | cont => obtain ⟨_, _, _, z⟩ := sp; exact z
  | ret u => obtain ⟨_, _, _, _, _, z⟩ := sp; exact z
/-- behind a look at the clause: the error goes on -/
theorem goes_on {B : Heap} {sI : Shared} {h3 : Heap} {s' : Shared} {pins' : List (Addr × Obj)} {cls : Value} {d : Option Addr} {Q : Flow → Shared → Prop} (hs : X.stack = X.env :: X.outer) (hf : X.env.frame = some X.env.locals) (tk : Takes X Wout) (J : Inv X pins' σ H sI)
    (nb : ∀ b u, sI.heap.get? b = some u → b ∉ frs X.stack → B.get? b = some u) (up : sI.heap.UpToSlots h3) (fl : HandSPX.FlyingZ B (X.env :: X.outer) a (Zc cls d) h3) (na : H a = none) (os : s'.os = sI.os) (ag : AllBare s'.gens) (w : Wout cls d σ H) :
    wpAny (model X.prog X.w) X.A (handleBy (.ref a) X.env []) Q X.xe { s' with heap := h3 } := by
  refine wpAny_handleBy_nil ?_
  have out : wpAny (model X.prog X.w) X.A (setFlight (.ref a) X.env.frame) (fun _ s4 => wpAny (model X.prog X.w) X.A (throw (.ref a) : Sem Flow) Q X.xe s4) X.xe { s' with heap := h3 } := by
    rw [hf]
    exact HandSPX.setFlight_upZ fl fun h4 held up4 => wpAny_throw (tk _ _ ⟨a, B, sI, pins', σ, H, cls, d, rfl, J, nb, up.trans up4, .inr (.inr (by rw [hs]; exact held)), na, os, ag, w⟩)
  obtain ⟨_, _, _, oe, vs, T, _, _, at0, _, fields, tr, _⟩ := fl
  unfold PySem.passOn
  refine wpAny_bind (wpAny_field at0 fields tr ?_)
  rw [if_neg (show ¬ ((Value.ref T == Value.none) = true) by simp)]
  first
    | exact wpAny_bind out
    | exact wpAny_bind (wpAny_pure (wpAny_bind out))
theorem ps_try_keep (hs : X.stack = X.env :: X.outer) (hf : X.env.frame = some X.env.locals) (hx : X.ex = []) (hN : X.N.Nodup) (hi : X.N[i]? = some n) (hln : X.env.kindOf n = some .local) (hk : X.N[k]? = some y) (hly : Loc X.env.scope y) (hc : Names X x c) (tk : Takes X Wout)
    (hsw : swapsWith (.Name n p2) (some (.Name y p1)) p3.line X.env = pure false) (hfy : X.fn y = true ∨ X.env.scope.names.lookup y = some .local) (hnd : (n == ("__debug__" : Str)) = false) (hnc : (n == ("__classdict__" : Str)) = false)
    (hb : ∀ (W : WX) (pn : List (Addr × Obj)) (xe : Value → Shared → Prop), Takes (X.tr pn xe) W → PassesOwn (model X.prog X.w) X.A X.env xe → PSs (X.tr pn xe) body (tb W)) :
    PS X (.Try body [.ExceptHandler (some (.Name x np)) (some n) [.Assign [.Name y p1] (.Name n p2) p3] pos'] [] [] pos) (fun D σ H => tb (wKeep X.K c i k Wout D) D σ H) := ⟨fun pins s σ H D I h => by
  have ok := I.ok
  have frames : X.A.frames = some (X.env :: X.outer) := by rw [ok.frames, hs]
  refine wpAny_Try_except ?_
  have run := (hb (wKeep X.K c i k Wout D) (X.pn ++ pins) (fun e s1 => wpAny (model X.prog X.w) X.A (noteFrame e X.env) (fun _ s2 => wpAny (model X.prog X.w) X.A (setFlight e none) (fun _ s3 =>
    wpAny (model X.prog X.w) X.A (handleBy e X.env [.ExceptHandler (some (.Name x np)) (some n) [.Assign [.Name y p1] (.Name n p2) p3] pos']) (SP X pins D) X.xe s3) X.xe s2) X.xe s1) (fun u s' xx => ?_) PassesOwn.looking).run [] s σ H D (I.toTry _) h
  · refine wpAny_mono run (fun f s1 sp => ?_) fun _ _ z => z
    cases f with
    | next => obtain ⟨σ', H', J, q⟩ := sp; exact wpAny_execs_nil ⟨σ', H', J.ofTry ok, q⟩
    | brk => obtain ⟨σ', H', J, q⟩ := sp; exact ⟨σ', H', J.ofTry ok, q⟩
    | cont => obtain ⟨σ', H', J, q⟩ := sp; exact ⟨σ', H', J.ofTry ok, q⟩
    | ret u => obtain ⟨v, σ', H', J, r, q⟩ := sp; exact ⟨v, σ', H', J.ofTry ok, r, q⟩
  · obtain ⟨a, B, sI, pins', σ1, H1, cls, d, rfl, J0, nb, up, sky, na, os, ag, b, is, yes, no⟩ := xx
    have J : Inv X pins σ1 H1 sI := J0.ofTry ok
    refine Sky.land Zc.steady frames hf (by rw [← hs]; exact sky) fun h3 fl up3 => ?_
    have J3 : Inv X pins σ1 H1 { s' with heap := h3 } := J.landed nb fl.1 (up.trans up3) os ag
    obtain ⟨oe, vs, there, z, fields⟩ := fl.there
    have nofr : a ∉ frs (X.env :: X.outer) := fun m => by
      obtain ⟨_, o', e', nf⟩ := fl.2.2.1.mem m
      rw [there] at e'
      cases e'
      exact nf _ fields
    have nL : a ≠ X.env.locals := fun e => nofr (List.mem_filterMap.mpr ⟨X.env, List.mem_cons_self, by rw [hf, e]⟩)
    have nF : a ∉ X.fs := fun m => by
      obtain ⟨e, h1, h2⟩ := List.mem_filterMap.mp m
      exact nofr (List.mem_filterMap.mpr ⟨e, List.mem_cons_of_mem _ h1, h2⟩)
    have L : Loose X pins a := air_loose J hx nb fl.2.1 (by rw [hs]; exact nofr) nL
    have S3 := J3.suite there fields na nL nF
    refine wpAny_handleBy_cons (codeAny_handlers_test ?_) (fun q => nomatch q)
    have typed : PySem.W.Looks (model X.prog X.w) h3 (typeOf (.ref a)) cls := fun _ _ _ _ k q => wpAny_typeOf_ref (k _ _ there) (by rw [z.1]; exact q)
    have looks := PySem.W.exm_one J3.kIn typed is
    have name : ∀ {Q E : Value → Shared → Prop}, Q c { s' with heap := h3 } → wpAny (model X.prog X.w) (X.A.mark (some (.ref a))) (eval (.Name x np) X.env) Q E { s' with heap := h3 } := fun {Q E} q => by
      obtain ⟨g, dbg, m | ⟨m, v, nn⟩⟩ := hc
      · exact ld_glob (X := X.suite a ((a, oe) :: (X.pn ++ pins))) S3 g m q dbg
      · exact ld_blt (X := X.suite a ((a, oe) :: (X.pn ++ pins))) S3 g m v q nn dbg
    refine name (looks.here ?_)
    cases b with
    | false => exact goes_on hs hf tk J nb (up.trans up3) fl na os ag (no rfl)
    | true =>
      obtain ⟨C, rfl, w⟩ := yes rfl
      refine codeAny_handlers_suite_as (HandSPX.lands_againZ fl fun h4 fl4 up4 => ?_)
      have J4 : Inv X pins σ1 H1 { s' with heap := h4 } := J.landed nb fl4.1 ((up.trans up3).trans up4) os ag
      obtain ⟨oe4, vs4, there4, z4, fields4⟩ := fl4.there
      refine store_ok (X := X.suite a ((a, oe4) :: (X.pn ++ pins))) (v := .ref a) (J4.suite there4 fields4 na nL nF) hN hi (.inl hln) rfl (fun s5 S5 => ?_) (.inr hln)
      have lt : i < σ1.length := by rw [J.len]; exact (List.getElem?_eq_some_iff.mp hi).1
      refine wpAny_mono (keep_suite (pos' := pos') (p3 := p3) (p1 := p1) (p2 := p2) (D := D) ok hN hi hln hk hly hsw hfy hnd hnc L na z4 fields4 S5 lt (w a na)) (fun f s6 q => ?_) fun _ _ z => z.elim
      cases f with
      | next => exact q
      | brk => exact q.elim
      | cont => exact q.elim
      | ret u => exact q.elim⟩
end
/-! ### .. as data -/
/-- tab: of which classes the clause takes the errors -/
def sTry (tab : List (Str × Bool)) (i k : Nat) (f : SF) : SF := fun ρ S => match f ρ S with
  | .exn c fl ρ' S' => match tab.lookup c with
    | some true => .nx (((ρ'.set i .no).set k (.fz (.exc c fl))).set i .no) S'
    | some false => .exn c fl ρ' S'
    | none => .stuck
  | o => o
/-- what a table says of the classes -/
def TabEx (X : KM) (c : Value) (tab : List (Str × Bool)) : Prop := ∀ n b, tab.lookup n = some b → ∀ C, X.mg n = some (.ref C) → PySem.W.exmOne X.K (.ref C) c = some b
section
variable {X : Cx} {G : Gh} {W : WX} {RR : RL} {x n y : Str} {c : Value} {i k : Nat} {body : List Stmt} {np p1 p2 p3 pos pos' : Pos} {f : SF} {tab : List (Str × Bool)}
theorem dTry (hs : X.stack = X.env :: X.outer) (hf : X.env.frame = some X.env.locals) (hx : X.ex = []) (hN : X.N.Nodup) (hc : Names X x c) (tk : Takes X W) (ht : TabEx X.km c tab)
    (hb : ∀ (W : WX) (pn : List (Addr × Obj)) (xe : Value → Shared → Prop), Takes (X.tr pn xe) W → PassesOwn (model X.prog X.w) X.A X.env xe → DS RR (X.tr pn xe) G W body f)
    (hi : X.N[i]? = some n := by rfl) (hln : X.env.kindOf n = some .local := by rfl) (hk : X.N[k]? = some y := by rfl) (hly : Loc X.env.scope y := by first | exact Or.inl rfl | exact Or.inr rfl)
    (hsw : swapsWith (.Name n p2) (some (.Name y p1)) p3.line X.env = pure false := by rfl) (hfy : X.fn y = true ∨ X.env.scope.names.lookup y = some .local := by first | exact .inl rfl | exact .inr rfl) (hnd : (n == ("__debug__" : Str)) = false := by decide) (hnc : (n == ("__classdict__" : Str)) = false := by decide) :
    DS1 RR X G W (.Try body [.ExceptHandler (some (.Name x np)) (some n) [.Assign [.Name y p1] (.Name n p2) p3] pos'] [] [] pos) (sTry tab i k f) :=
  PS.weak (ps_try_keep (tb := fun W => TSR RR X.km G W f) hs hf hx hN hi hln hk hly hc tk hsw hfy hnd hnc hb) fun D σ H ⟨ρ, S, eo, q⟩ => by
    refine ⟨ρ, S, eo, ?_⟩
    unfold sTry at q
    cases e : f ρ S with
    | exn c' fl ρ' S' =>
      rw [e] at q
      dsimp only at q
      intro cls d σ' H' eo' p' ⟨C, mg, ec, ex⟩
      subst ec
      cases l : tab.lookup c' with
      | none => rw [l] at q; exact q.elim
      | some b =>
        rw [l] at q
        refine ⟨b, ht c' b l C mg, fun eb => ?_, fun eb => ?_⟩
        · subst eb
          refine ⟨C, rfl, fun a na => ?_⟩
          have sm : Same H' (upd H' a (ExV C d a)) := same_new na
          have eo2 := eo'.ext (Ext.of_same sm) (ext_src eo'.src sm)
          refine q _ _ (((eo2.drop (i := i) (w := some (.ref a))).set (i := k) (x := .exc c' fl) ⟨a, C, d, rfl, mg, upd_same, ?_⟩).drop) (p'.trans (Same.pers sm))
          rcases ex with ex | ⟨dd, fs, e1, e2, e3⟩
          · exact .inl ex
          · exact .inr ⟨dd, fs, e1, sm _ _ e2, e3.pers (Same.pers sm)⟩
        · subst eb
          exact q _ _ _ _ eo' p' ⟨C, mg, rfl, ex⟩
    | nx ρ' S' => rw [e] at q; exact q
    | bk ρ' S' => rw [e] at q; exact q
    | ct ρ' S' => rw [e] at q; exact q
    | rt v S' => rw [e] at q; exact q
    | stuck => rw [e] at q; exact q
end
/-! ### e.n and isinstance(e, X) of an error that was kept -/
/-- what an own class of errors says for both -/
structure ExA (K : PySem.W.Frag) (C : Addr) : Prop where
  cl : (PySem.W.clsIn K C).isSome = true
  ga : PySem.W.findIn K (.ref C) "__getattribute__" = some (some (.builtin "BaseException.__getattribute__"))
  gg : PySem.W.findIn K (.ref C) "__getattr__" = some none
  sb : PySem.W.subIn K (.ref C) (.type "BaseException") = some true
  ha : PySem.W.findIn K (.ref C) "__class__" = some (some (.builtin "object.__class__"))
  hn : PySem.W.specialIn K (.builtin "object.__class__") "__get__" = some (some (.builtin "getset_descriptor.__get__"))
  tk : PySem.W.takesIn K (.builtin "object.__class__") = some true
  mr : PySem.W.mroIn K C (.type "object") = some true
  hd : PySem.W.hasDictIn K C = true
theorem exv_inst {X : Cx} {pins : List (Addr × Obj)} {σ : St} {H : Hp} {s : Shared} {f : Flds} {a C : Addr} {d : Option Addr} (I : Inv X pins σ H s) (e : H a = some (ExV C d a)) (x : ExF X.K H f d) :
    ∃ oe od, PySem.W.InstAt s.heap a oe C od ∧ ∀ dd fs, d = some dd → H dd = some (.xd fs) → ∃ (o : Obj) (mA : Str → Option Value), od = some o ∧ (∀ g, RelO (fs.lookup g) (mA g)) ∧ ∀ g, PySem.W.lookIn g o = some (mA g) := by
  obtain ⟨⟨oe, vs, there, z, fields⟩, _, _⟩ := I.hok a _ e
  have nc : PySem.W.notCls oe = true := by
    unfold PySem.W.notCls
    rw [fields]
  rcases x with ⟨rfl, _⟩ | ⟨dd, fs, rfl, hd, _⟩
  · exact ⟨oe, none, ⟨there, z.1, nc, by rw [z.2]; trivial⟩, fun _ _ q => nomatch q⟩
  · obtain ⟨mA, ns, r⟩ := (show ObjOk X.prog X.w H s.heap dd (.xd fs) from I.hok dd _ hd)
    obtain ⟨od, ho, hl⟩ := lookIn_ns ns
    refine ⟨oe, some od, ⟨there, z.1, nc, by rw [z.2]; exact ho⟩, fun dd' fs' q q' => ?_⟩
    cases q
    rw [hd] at q'
    cases q'
    exact ⟨od, mA, rfl, r, hl⟩
section
variable {X : Cx} {G : Gh} {W : WX} {e : Expr} {u : EF} {pos : Pos}
/-- e.n -/
def attrV (cs : List Str) (n : Str) : Vl → Option Vl
  | .exc c f => if cs.contains c = true then (match f.lookup n with
    | some (.d d) => some (.dat d)
    | _ => none) else none
  | _ => none
def fUE (F : Vl → Option Vl) (u : EF) : EF := fun ρ S => (u ρ S).bind fun x S1 => ofO (F x) S1
theorem dAttr {cs : List Str} {n : Str} (he : DV X G W e u) (ht : ∀ c ∈ cs, ∀ C, X.mg c = some (.ref C) → ExA X.K C ∧ PySem.W.findIn X.K (.ref C) n = some none) (hb : attributeBase e n X.env (eval e X.env) = eval e X.env := by rfl) :
    DE X G W (.Attribute e n pos) (fUE (attrV cs n) u) := ⟨fun pins s σ H Q I q => by
  have q2 : TR DB X.km G W u σ H fun v H1 => ∃ c f d a C dd fs w, v = .ref a ∧ c ∈ cs ∧ X.mg c = some (.ref C) ∧ H1 a = some (ExV C dd a) ∧ ExF X.K H1 f dd ∧ f.lookup n = some (.d d) ∧ (∀ b, dd = some b → H1 b = some (.xd fs)) ∧ fs.lookup n = some w ∧ dd ≠ none ∧ Q w H1 := by
    refine TR.of (TG1.bind ups_df q.g fun ρ x v S S1 H1 eo eo1 e1 r1 q1 => ?_)
    unfold attrV at q1
    split at q1
    · rename_i c f
      by_cases hc : cs.contains c = true
      · rw [if_pos hc] at q1
        rcases r1 with ⟨a, C, dd, rfl, mg, ha, x⟩ | ⟨a, _, _, _, od⟩
        · rcases id x with ⟨rfl, rfl⟩ | ⟨b, fs, rfl, hb, df⟩
          · exact q1.elim
          · have z := df n
            cases l : f.lookup n with
            | none => rw [l] at q1; exact q1.elim
            | some fv =>
              rw [l] at q1 z
              cases fv with
              | k kvs => exact q1.elim
              | d d =>
                obtain ⟨w, l2, dw⟩ := z
                exact ⟨c, f, d, a, C, some b, fs, w, rfl, List.contains_iff_mem.mp hc, mg, ha, x, l, (fun b' e => by cases e; exact hb), l2, (fun z => nomatch z), q1.ret eo1.src dw⟩
        · exact od.elim
      · rw [if_neg hc] at q1; exact q1.elim
    · exact q1.elim
  refine attr_of hb (thn (he.run pins s σ H _ I q2) fun u1 s1 ⟨v, H1, I1, rv, c, f, d, a, C, dd, fs, w, ev, mc, mg, ha, x, l, hd, l2, nn, z⟩ => ?_)
  subst ev
  obtain rfl : u1 = Value.ref a := rv
  obtain ⟨A, no⟩ := ht c mc C mg
  obtain ⟨oe, od, J, own⟩ := exv_inst I1 ha x
  cases dd with
  | none => exact absurd rfl nn
  | some b =>
    obtain ⟨o, mA, rfl, r, look⟩ := own b fs rfl (hd b rfl)
    obtain ⟨u2, hu, ru⟩ := RelO.some_of (v := w) (o := mA n) (by rw [← l2]; exact r n)
    exact HandSPX.exc_get I1.kIn J A.ga A.gg A.sb (PySem.W.findObj_own A.hd no rfl (by rw [look, hu])) (handed_of ru) ⟨w, H1, I1.tok _, ru, z⟩⟩
/-- isinstance of an error (or of None), one class -/
theorem call_isX : CallR X (.builtin "isinstance") (fun xs H Q => ∃ (x cv : V) (cu : Value) (b : Bool), xs = [x, cv] ∧ ClsV cv cu ∧ Q (.bl b) H ∧ ((x = .non ∧ PySem.W.kitOne X.K (.type "NoneType") cu = some b) ∨
    ∃ a C d f, x = .ref a ∧ H a = some (ExV C d a) ∧ ExF X.K H f d ∧ ExA X.K C ∧ PySem.W.kitOne X.K (.ref C) cu = some b)) := by
  intro pins s σ H xs us Q I r ⟨x, cv, cu, b, ex, k, q, h⟩
  subst ex
  rcases h with ⟨rfl, hk⟩ | ⟨a, C, d, f, rfl, ha, hx, A, hk⟩
  · exact call_isi pins s σ H _ us Q I r ⟨.non, cv, _, cu, b, rfl, k, .base .non, hk, q⟩
  · cases r with
    | cons r1 r2 =>
      cases r2 with
      | cons r2 r3 =>
        cases r3
        cases r1
        have eu := k.eq r2
        subst eu
        obtain ⟨oe, od, J, _⟩ := exv_inst I ha hx
        exact PySem.W.kia_one (PySem.W.kitx_exc A.cl A.ga A.gg A.sb A.ha A.hn A.tk A.mr) I.kIn J hk (fun z => nomatch z) fun tk => ⟨.bl b, H, I.tok tk, rfl, q⟩
def isCV (tab : List (Str × Bool)) : Vl → Option Vl
  | .dat .none => some (.dat (.bool false))
  | .exc c _ => (tab.lookup c).map fun b => .dat (.bool b)
  | _ => none
def TabIs (X : KM) (c : Value) (tab : List (Str × Bool)) : Prop := PySem.W.kitOne X.K (.type "NoneType") c = some false ∧ ∀ n b, tab.lookup n = some b → ∀ C, X.mg n = some (.ref C) → ExA X.K C ∧ PySem.W.kitOne X.K (.ref C) c = some b
theorem dIsC {tab : List (Str × Bool)} {x : Str} {cv : V} {cu : Value} {p p2 : Pos} (he : DV X G W e u) (hm : X.mg "isinstance" = none) (hc : PE X (.Name x p2) (tC cv)) (k : ClsV cv cu) (ht : TabIs X.km cu tab) (hg : Gl X "isinstance" := by rfl)
    (h1 : starEach [e, .Name x p2] X.env = (false, eval e X.env) :: starEach [.Name x p2] X.env := by rfl) (h2 : starEach [.Name x p2] X.env = (false, eval (.Name x p2) X.env) :: starEach [] X.env := by rfl) (hpl : (backTo pos (starEach [.Name x p2] X.env)).any (·.1) = false := by rfl) :
    DO X G W (.Call (.Name "isinstance" p) [e, .Name x p2] [] pos) (fU (isCV tab) u) :=
  PE.weak (pe_callB (id := "isinstance") call_isX hg hm PyProof.Rows.Boot.«isinstance» (pa_cons he (pa_cons hc pa_nil h2) h1) (by decide) (by decide) h1 hpl) fun σ H Q q => by
    show TR DB X.km G W u σ H _
    refine TR.of (TG1.bind ups_dn q.g fun ρ x v S S1 H1 eo eo1 e1 r1 q1 => ?_)
    unfold isCV at q1
    split at q1
    · cases DB.non r1
      exact ⟨_, cv, cu, false, rfl, k, q1.ret eo1.src (Vl.b_dn _), .inl ⟨rfl, ht.1⟩⟩
    · rename_i c f
      cases l : tab.lookup c with
      | none => rw [l] at q1; exact q1.elim
      | some b =>
        rw [l] at q1
        rcases r1 with ⟨a, C, d, rfl, mg, ha, hx⟩ | ⟨a, _, _, _, od⟩
        · obtain ⟨A, hk⟩ := ht.2 c b l C mg
          exact ⟨_, cv, cu, b, rfl, k, q1.ret eo1.src (Vl.b_dn _), .inr ⟨a, C, d, f, rfl, ha, hx, A, hk⟩⟩
        · exact od.elim
    · exact q1.elim
/-- the class by its name: an own one, a built-in one -/
theorem dIsO {tab : List (Str × Bool)} {x : Str} {D : Addr} {p p2 : Pos} (he : DV X G W e u) (hm : X.mg "isinstance" = none) (hx : X.mg x = some (.ref D)) (ht : TabIs X.km (.ref D) tab) (hg : Gl X "isinstance" := by rfl) (hgx : Gl X x := by rfl) (hdb : (x == ("__debug__" : Str)) = false := by decide)
    (h1 : starEach [e, .Name x p2] X.env = (false, eval e X.env) :: starEach [.Name x p2] X.env := by rfl) (h2 : starEach [.Name x p2] X.env = (false, eval (.Name x p2) X.env) :: starEach [] X.env := by rfl) (hpl : (backTo pos (starEach [.Name x p2] X.env)).any (·.1) = false := by rfl) :
    DO X G W (.Call (.Name "isinstance" p) [e, .Name x p2] [] pos) (fU (isCV tab) u) := dIsC he hm (pe_glob (v := .ref D) hgx hx rfl hdb) (.own D) ht hg h1 h2 hpl
theorem dIsB {tab : List (Str × Bool)} {x : Str} {T : String} {p p2 : Pos} (he : DV X G W e u) (hm : X.mg "isinstance" = none) (hx : X.mg x = none) (hT : bootBuiltins x = some (.type T)) (ht : TabIs X.km (.type T) tab) (hg : Gl X "isinstance" := by rfl) (hgx : Gl X x := by rfl) (hn : x ≠ "__name__" := by decide) (hdb : (x == ("__debug__" : Str)) = false := by decide)
    (h1 : starEach [e, .Name x p2] X.env = (false, eval e X.env) :: starEach [.Name x p2] X.env := by rfl) (h2 : starEach [.Name x p2] X.env = (false, eval (.Name x p2) X.env) :: starEach [] X.env := by rfl) (hpl : (backTo pos (starEach [.Name x p2] X.env)).any (·.1) = false := by rfl) :
    DO X G W (.Call (.Name "isinstance" p) [e, .Name x p2] [] pos) (fU (isCV tab) u) := dIsC he hm (pe_bltn (v := .ty T) hgx hx hT rfl hn hdb) (.ty T) ht hg h1 h2 hpl
end
end L2.HL

/-! repr of data; defs that are called where no repr is under way -/
namespace L2.HL
open PySem PySem.Spec PyProof.Rows
def reprOk (d : PyData) : Bool := d.showable && !d.hasDict && decide (d.shown.length ≤ 16777216) && decide (d.depth ≤ 100)
def reprF : List Vl → Option Vl
  | [.dat d] => if reprOk d = true then some (.dat (.str d.shown)) else none
  | _ => none
section
variable {X : Cx} {G : Gh}
theorem cl_repr (gd : X.A.guards = some []) (hu : X.A.units + 200 < cLine) : CallR X (.builtin "repr") (rL X reprF G) := by
  intro pins s σ H vs us Q I r h
  obtain ⟨xs, z, ab, hf, q⟩ := h
  unfold reprF at hf
  split at hf
  · rename_i d
    by_cases ok : reprOk d = true
    · rw [if_pos ok] at hf
      cases hf
      obtain ⟨v, rfl, hd⟩ := ab.one
      unfold reprOk at ok
      simp only [Bool.and_eq_true, Bool.not_eq_true', decide_eq_true_eq] at ok
      obtain ⟨⟨⟨sh, nd⟩, sz⟩, dp⟩ := ok
      have fin : ∀ {s' : Shared} (t : Tok), Inv X pins σ H s' → EP X pins σ Q (.str d.shown t) s' := fun t I' => ⟨.str d.shown, H, I', ⟨t, rfl⟩, q _ H (Same.refl H) (Vl.s_dn _)⟩
      have one : ∃ u, us = [u] ∧ RelV v u := by
        cases r with
        | cons r1 r2 => cases r2; exact ⟨_, rfl, r1⟩
      obtain ⟨u, rfl, ru⟩ := one
      obtain ⟨as, rd⟩ := hd.reads I ru
      cases d with
      | none =>
        cases rd
        exact PySem.P.repr_of_none (fin _ (I.tok _))
      | bool b =>
        cases rd
        exact PySem.P.repr_of_bool (fin _ (I.tok _))
      | int i =>
        cases rd
        exact PySem.P.repr_of_int (by simpa [PyData.showable] using sh) (fin _ (I.tok _))
      | str x =>
        cases rd
        exact PySem.P.repr_of_str (fin _ (I.tok _)) (by rw [← sizeN]; exact sz)
      | list ds =>
        obtain ⟨a, ys, rfl, _⟩ := hd.list
        cases ru
        exact repr_of_reads' rd sh (PyData.noDict_hsm nd) gd (by omega) (fun _ _ e => e) (fun h' u tk k => fin u (I.kept (t' := tk) k)) (by rw [← sizeN]; exact sz)
      | tuple ds =>
        obtain ⟨a, ys, rfl, _⟩ := hd.tup
        cases ru
        exact repr_of_reads' rd sh (PyData.noDict_hsm nd) gd (by omega) (fun _ _ e => e) (fun h' u tk k => fin u (I.kept (t' := tk) k)) (by rw [← sizeN]; exact sz)
      | dict l => exact (DB.dict hd).elim
    · rw [if_neg ok] at hf; cases hf
  · cases hf
end
/-! ### defs that are told only where no repr is under way -/
structure FnG (P : Program) (w : World) (K : PySem.W.Frag) (mg : Str → Option Value) (base : Heap) (C : CXT) (k : Nat) (f : Addr) (fd : FuncData) (ps : List Str) (sp : Sp) : Prop where
  len : ∀ vs H Q E, sp vs H Q E → vs.length = ps.length
  run : ∀ (A : Around) (outer : List Env) (s : Shared) (H : Hp) (args : Args) (us : List Value) (vs : List V) (Q : VK) (E : XK), A.guards = some [] → Room k A → Env0 P w K mg base A outer s H → BindsTo s fd args (ps.zip us) → Vals vs us → sp vs H Q E →
    codeAny (model P w) A (.call (.ref f) args) (CR C outer P w H s Q E) s
section
variable {P : Program} {w : World} {K : PySem.W.Frag} {mg : Str → Option Value} {base : Heap} {x qual : Str} {st : Stmt} {f : Addr} {fd : FuncData} {N ps : List Str} {k : Nat} {RR : RL} {b : SF} {sp : Sp}
/-- what a body leaves is what its call leaves -/
theorem left_of {X : Cx} {pins : List (Addr × Obj)} {Q : VK} {H : Hp} {s s' : Shared} (hs0 : X.s_0 = s) (hH0 : X.H_0 = H) (hP : X.prog = P) (hw : X.w = w) (hex : X.ex = []) {fl : Flow} (sp : SP X pins { nx := fun _ H' => Q .non H', rt := Q } fl s') :
    (match fl with | .ret u => CE X.outer P w H s Q u s' | .next => CE X.outer P w H s Q Value.none s' | _ => False) := by
  subst hs0 hH0 hP hw
  cases fl with
  | next =>
    obtain ⟨σ, H', J, q⟩ := sp
    exact ⟨.non, H', J.os, J.bare, by rw [← hex]; exact J.base, J.hok, rfl, q⟩
  | ret u =>
    obtain ⟨v, σ, H', J, r, q⟩ := sp
    exact ⟨v, H', J.os, J.bare, by rw [← hex]; exact J.base, J.hok, r, q⟩
  | brk => obtain ⟨_, _, _, q⟩ := sp; exact q
  | cont => obtain ⟨_, _, _, q⟩ := sp; exact q
/-- one call of a def, around A -/
theorem Fun.at {A : Around} {outer : List Env} {s : Shared} {H : Hp} {args : Args} {us : List Value} {vs : List V} {Q : VK} {E : XK} (F : Fun K x qual st f fd) (S : FnScope N ps (defScope st)) (hr : Room (k + 1) A) (e0 : Env0 P w K mg base A outer s H)
    (hb : BindsTo s fd args (ps.zip us)) (r : Vals vs us) (hl : vs.length = ps.length)
    (body : ∀ cdv, Room k (A.deeper (envOfC qual (defScope st) s.heap.objs.size f cdv)) → ∃ t, PSs (cxOf (L2.CX P w) P w K mg base N qual (defScope st) f cdv A outer s H E) (defBody st) t ∧ t { nx := fun _ H' => Q .non H', rt := Q } (start N vs) H) :
    codeAny (model P w) A (.call (.ref f) args) (CR (L2.CX P w) outer P w H s Q E) s := by
  obtain ⟨oc, od, kV, doc, pm, an, cdv, ct, osl, rfl, lk, code⟩ := F.ex
  have mine : ∀ b o, base.get? b = some o → s.heap.get? b = some o := fun b o e => (e0.bs b o e).1
  have KX : K.In s.heap := e0.mod.kin.keeps mine
  refine codeAny_call_function hr.depth (KX _ _ lk) rfl S.co S.gen rfl (PySem.W.codeRec_of KX code) (hb _ _ _ _ (wpAny_newFunctionEnv_cells S.kind (fun ⟨n, v⟩ hy => (S.par n (List.of_mem_zip hy).1).imp id fun q => ⟨q, PySem.W.cellsFrom_some _ _ _ (.inl q)⟩) fun env he s1 into => ?_))
  subst he
  refine ⟨(e0.mod.nolimit.keeps mine).keeps into.toInCall.keep, codeAny_func ?_⟩
  obtain ⟨t, ht, start⟩ := body cdv (hr.deeper _)
  refine wpAny_mono (ht.run [] s1 _ H _ (inv_start S hr.hd e0 hl r into) start) (fun fl s' sp => ?_) fun _ _ z => z
  have z := left_of rfl rfl rfl rfl rfl sp
  cases fl <;> first | exact z | exact (show False from z).elim
/-- a body's word where no repr is under way -/
def BodyG (RR : RL) (P : Program) (w : World) (K : PySem.W.Frag) (mg : Str → Option Value) (base : Heap) (N : List Str) (qual : Str) (st : Stmt) (f : Addr) (k : Nat) (b : SF) : Prop :=
  ∀ (cdv : Value) (A : Around) (outer : List Env) (s : Shared) (H : Hp) (E : XK), A.guards = some [] → Room k (A.deeper (envOfC qual (defScope st) s.heap.objs.size f cdv)) → ∀ (G : Gh) (W : WX), Takes (cxOf (L2.CX P w) P w K mg base N qual (defScope st) f cdv A outer s H E) W →
    PassesOwn (model P w) (cxOf (L2.CX P w) P w K mg base N qual (defScope st) f cdv A outer s H E).A (cxOf (L2.CX P w) P w K mg base N qual (defScope st) f cdv A outer s H E).env (cxOf (L2.CX P w) P w K mg base N qual (defScope st) f cdv A outer s H E).xe →
    DS RR (cxOf (L2.CX P w) P w K mg base N qual (defScope st) f cdv A outer s H E) G W (defBody st) b
theorem spD_len {F : Fm} {m : Nat} (hF : ∀ xs S, xs.length ≠ m → F xs S = .stuck) {vs : List V} {H : Hp} {Q : VK} {E : XK} (h : spD RR ⟨K, mg⟩ F vs H Q E) : vs.length = m := by
  obtain ⟨G, xs, S, _, _, ad, q⟩ := h
  by_cases z : xs.length = m
  · rw [← ad.length]; exact z
  · rw [hF xs S z] at q; exact q.elim
theorem dDefG (Fu : Fun K x qual st f fd) (Sc : FnScope N ps (defScope st)) (hb : BodyG RR P w K mg base N qual st f k b) : FnG P w K mg base (L2.CX P w) (k + 1) f fd ps (spD RR ⟨K, mg⟩ (defF N.length ps.length b)) := by
  have len := fun {vs H Q E} => spD_len (RR := RR) (K := K) (mg := mg) (F := defF N.length ps.length b) (m := ps.length) (fun xs S z => by unfold defF; rw [if_neg z]) (vs := vs) (H := H) (Q := Q) (E := E)
  refine ⟨fun vs H Q E h => len h, fun A outer s H args us vs Q E gd hr e0 bt r h => ?_⟩
  have hl := len h
  obtain ⟨G, xs, S, h0, hs, ad, q⟩ := h
  refine Fun.at Fu Sc hr e0 bt r hl fun cdv hr' => ⟨_, hb cdv A outer s H E gd hr' G (fun cls d _ H => E cls d H) (takes_of rfl rfl rfl rfl) (passes_of rfl), _, S, eo_start (X := ⟨K, mg⟩) h0 hs ad, ?_⟩
  unfold defF at q
  rw [if_pos (ad.length.trans hl)] at q
  cases e : b (env0 N.length xs) S with
  | rt v S' => rw [e] at q; exact fun v H' a c d => q v H' (h0 ▸ a) c d
  | exn c a ρ S' => rw [e] at q; exact fun cls d σ' H' eo' _ ex => q cls d H' (h0 ▸ eo'.same) eo'.src ex
  | nx ρ S' => rw [e] at q; exact q.elim
  | bk ρ S' => rw [e] at q; exact q.elim
  | ct ρ S' => rw [e] at q; exact q.elim
  | stuck => rw [e] at q; exact q.elim
end
section
variable {X : Cx} {G : Gh} {W : WX} {x : Str} {e : Expr} {es : List Expr} {g : AF} {F : Fm} {k : Nat} {f : Addr} {fd : FuncData} {ps : List Str} {p pos : Pos} {RR : RL} {sp : Sp} {t : TA}
theorem pe_callG (FO : FnG X.prog X.w X.K X.mg X.base (L2.CX X.prog X.w) k f fd ps sp) (gd : X.A.guards = some []) (hr : Room k X.A) (hg : Gl X x) (hm : X.mg x = some (.ref f)) (hk : PySem.W.keepIn X.K (.ref f) = true) (hb : Binds X.K fd ps []) (tk : Takes X W)
    (ha : PA X (e :: es) t) (hdb : (x == ("__debug__" : Str)) = false) (he : starEach (e :: es) X.env = (false, eval e X.env) :: starEach es X.env) (hpl : (backTo pos (starEach es X.env)).any (·.1) = false) :
    PE X (.Call (.Name x p) (e :: es) [] pos) (tCallS sp (WE W) t) := ⟨fun pins s σ H Q I h =>
  wpAny_Call_Name_kw (ld_glob I hg hm (PySem.W.callWith_K (h₀ := X.base) I.ok.mod.kin hk (thn (ha.run pos pins s σ H _ I h) fun us s1 ⟨vs, H1, I1, r, q⟩ => ⟨I1.kIn, by
    have b := hb s1 us I1.kIn (by rw [List.append_nil, ← r.length]; exact FO.len _ _ _ _ q)
    rw [List.append_nil] at b
    refine wpAny_call (codeAny_mono (FO.run X.A X.stack s1 H1 ⟨us, []⟩ us vs Q (WE W σ) gd hr I1.env0 b r q) fun o s' z => ?_)
    cases o with
    | error u => exact passAt tk σ pins H1 s1 u s' I1 z
    | ok fl =>
      cases fl with
      | ret u => exact I1.after z
      | next => exact z.elim
      | brk => exact z.elim
      | cont => exact z.elim⟩) he hpl) hdb)⟩
theorem dCallG (FO : FnG X.prog X.w X.K X.mg X.base (L2.CX X.prog X.w) k f fd ps (spD rtF X.km F)) (gd : X.A.guards = some []) (hr : Room k X.A) (hm : X.mg x = some (.ref f)) (hk : PySem.W.keepIn X.K (.ref f) = true) (hb : Binds X.K fd ps []) (tk : Takes X W) (ha : DAs X G W (e :: es) g) (hg : Gl X x := by rfl) (hdb : (x == ("__debug__" : Str)) = false := by decide)
    (he : starEach (e :: es) X.env = (false, eval e X.env) :: starEach es X.env := by rfl) (hpl : (backTo pos (starEach es X.env)).any (·.1) = false := by rfl) : DE X G W (.Call (.Name x p) (e :: es) [] pos) (fCall F g) :=
  PE.weak (pe_callG FO gd hr hg hm hk hb tk ha hdb he hpl) fun σ H Q q => call_of ups_df rtF_re q
end
end L2.HL

/-! the source of draws: what its two defs are worth -/
namespace L2.HL
open PySem PySem.Spec PyProof.Rows
/-- a power that is known to be small enough, base and exponent given -/
theorem op_powC {X : Cx} (a b : Int) (h0 : b ≥ 0 := by decide) (h1 : ¬(b == 0) = true := by decide) (h2 : ¬(a == 0 || a == 1) = true := by decide +kernel) (h3 : ¬(a == -1) = true := by decide +kernel) (h4 : ¬Builtin.Int.intTooBig (((Builtin.Int.intBits a : Nat) : Int) * b) = true := by decide +kernel) :
    OpR X (binaryOp .Pow) (rI (fun i j => i = a ∧ j = b) fun i j => .int (i ^ j.toNat)) := opI fun i j _ _ _ _ _ hc q => by
  obtain ⟨rfl, rfl⟩ := hc
  exact AutoIntOps.pow_4 h0 h1 h2 h3 h4 q
/-- == of data, whatever the source is -/
theorem or_eqA {X : Cx} (hu : X.A.units + 200 < cLine) : OpR X (compareOp .Eq) (fun x y H Q => ∃ G, rC X eqD G x y H Q) := fun pins s σ H x y v u Q I rx ry ⟨G, h⟩ => or_eq (G := G) hu pins s σ H x y v u Q I rx ry h
/-- the cells from a script -/
def cellsOk (cs : List Int) : Prop := cs ≠ [] ∧ cs.length ≤ 63
def spSource (K : PySem.W.Frag) : Sp := fun vs H Q _ => ∃ (a : Addr) (ns : List Int), vs = [.ref a] ∧ SqL K H a (ns.map V.int) ∧ ns.length ≤ 63 ∧ ∀ H' p c cs, cellsOk cs → (∀ b u, H b = some u → H' b = some u) → H p = none → H c = none → p ≠ c → H' p = some (.lst [.ref c, .int 0]) → H' c = some (.lst (cs.map V.int)) → Q (.ref p) H'
/-! ### lists of ints that change -/
theorem ne_l (p e : Nat) : p ≠ p + e + 1 := by omega
theorem ne_r (p e : Nat) : e ≠ p + e + 1 := by omega
theorem eqd_nil (xs : List PyData) : eqD (.dat (.list xs)) (.dat (.list [])) = some (xs.isEmpty) := by
  have z : dep (.list xs) (.list []) = true := decide_eq_true (Nat.le_trans (Nat.min_le_right _ _) (by decide))
  show (if dep (.list xs) (.list []) = true then some (PyData.eqv (.list xs) (.list [])) else none) = _
  rw [if_pos z, PyData.eqv]
  cases xs <;> rfl
theorem two' (b : Bool) {A B : Prop} (x : b = true → A) (y : b = false → B) : if b = true then A else B := by
  cases b
  · exact y rfl
  · exact x rfl
theorem two (b : Bool) {A B : Prop} (x : A) (y : B) : if b = true then A else B := by cases b <;> assumption
/-- a list of ints as data -/
def intsD (ns : List Int) : PyData := .list (ns.map .int)
theorem intsD_den {K : PySem.W.Frag} {H : Hp} : ∀ ns : List Int, DenL K H (ns.map .int) (ns.map V.int)
  | [] => DenL.nil
  | n :: ns => DenL.cons (by unfold Den; rfl) (intsD_den ns)
/-- a list of ints that may be changed, and what stood -/
structure Cells (H0 H : Hp) (p : Addr) (ys : List Int) : Prop where
  at_ : H p = some (.lst (ys.map V.int))
  new : H0 p = none
  old : ∀ b u, H0 b = some u → H b = some u
theorem Cells.put {H0 H : Hp} {p : Addr} {ys zs : List Int} (c : Cells H0 H p ys) : Cells H0 (upd H p (.lst (zs.map V.int))) p zs :=
  ⟨upd_same, c.new, fun b u e => by rw [upd_ne (fun z => by rw [z, c.new] at e; cases e)]; exact c.old b u e⟩
theorem atI_nth {ys : List Int} {k : Nat} (h : k < ys.length) : atI (ys.map V.int) (k : Int) = some (.int ys[k]) := by
  refine atI_nat (j := k) ?_
  rw [List.getElem?_map, List.getElem?_eq_getElem h]
  rfl
theorem setI_map (ys : List Int) (k : Nat) (z : Int) : (ys.map V.int).set k (.int z) = (ys.set k z).map V.int := by
  rw [List.map_set]
/-! ### a draw -/
def dr0 (c t : Int) : Int := (c % 2147483629 * 48271 + t * t * 69621 + 11) % 2147483647
def dr1 (z : Int) : Int := z * z % 2147483629
def dr2 (z : Int) : Int := z * z % 2147483587
def dr3 (z t : Int) : Int := (z * 39373 + t * 7919 + 500) % 2147483629
def drawV (c t n : Int) : Int := (if 10 ^ 9 < n then dr2 (dr1 (dr0 c t)) * (dr3 (dr2 (dr1 (dr0 c t))) t * dr3 (dr2 (dr1 (dr0 c t))) t * dr3 (dr2 (dr1 (dr0 c t))) t + 1) else dr2 (dr1 (dr0 c t))) % n
theorem dr_m0 (x : Int) : 0 ≤ x % 2147483629 ∧ x % 2147483629 < 2147483648 := ⟨Int.emod_nonneg _ (by decide), by have := Int.emod_lt_of_pos x (show (0 : Int) < 2147483629 by decide); omega⟩
theorem dr_m1 (x : Int) : 0 ≤ x % 2147483647 ∧ x % 2147483647 < 2147483648 := ⟨Int.emod_nonneg _ (by decide), by have := Int.emod_lt_of_pos x (show (0 : Int) < 2147483647 by decide); omega⟩
theorem dr_m2 (x : Int) : 0 ≤ x % 2147483587 ∧ x % 2147483587 < 2147483648 := ⟨Int.emod_nonneg _ (by decide), by have := Int.emod_lt_of_pos x (show (0 : Int) < 2147483587 by decide); omega⟩
theorem cm_l {x y : Int} (a : 0 ≤ x) (b : x < 2 ^ 40) : CMul x y := .inl ⟨by omega, by omega⟩
theorem cm_r {x y : Int} (a : 0 ≤ y) (b : y < 2 ^ 40) : CMul x y := .inr ⟨by omega, by omega⟩
def Src.now (S : Src) : Int := S.cells.getD (S.turn % S.cells.length).toNat 0
/-- one draw below n -/
def drawS (n : Int) (S : Src) : Int × Src := if 10 ^ 18 ≤ S.now then (S.now % n, ⟨S.cells.set (S.turn % S.cells.length).toNat (S.now / n), S.turn + 1⟩) else (drawV S.now S.turn n, ⟨S.cells, S.turn + 1⟩)
def drawOk (n : Int) (S : Src) : Bool := decide (0 < n ∧ n < 2 ^ 1000) && decide (0 ≤ S.turn ∧ S.turn < 2 ^ 40) && decide (S.cells ≠ [] ∧ S.cells.length ≤ 63)
def F_draw : Fm := fun xs S => match xs with
  | [.src, .dat (.int n)] => if drawOk n S = true then .ok (.dat (.int (drawS n S).1)) (drawS n S).2 else .stuck
  | _ => .stuck
end L2.HL

/-! the law's own def, and the end of a claim -/
namespace L2.HL
open PySem PySem.Spec PyProof.Rows
/-- what the law's def must keep -/
def spLaw (K : PySem.W.Frag) : Sp := fun vs H Q _ => ∃ (a : Addr) (ns : List Int), vs = [.ref a] ∧ SqL K H a (ns.map V.int) ∧ ns.length ≤ 63 ∧ ∀ H', Q (.bl true) H'
/-- the names of the law's def behind its first row: the source stands in slot 1 -/
def rho0 (n : Nat) : En := .no :: .fz .src :: List.replicate (n - 2) .no
section
variable {X : Cx} {W : WX} {RR : RL} {rest : List Stmt} {f : SF}
theorem dsAny (h : ∀ G, DS RR X G W rest f) : PSs X rest (fun D σ H => ∃ G, TSR RR X.km G W f D σ H) := ⟨fun pins s σ H D I ⟨G, q⟩ => (h G).run pins s σ H D I q⟩
theorem eo_law {X : KM} {H : Hp} {N : List Str} {a p c : Addr} {cs : List Int} (hN : 2 ≤ N.length) (ne : p ≠ c) (hp : H p = some (.lst [.ref c, .int 0])) (hc : H c = some (.lst (cs.map V.int))) : EO X ⟨p, c, H⟩ H ((start N [.ref a]).set 1 (some (.ref p))) (rho0 N.length) ⟨cs, 0⟩ where
  same := Ext.refl _ H
  src0 := ⟨(fun z => by rw [show H p = none from z] at hp; cases hp), fun z => by rw [show H c = none from z] at hc; cases hc⟩
  src := ⟨ne, hp, hc⟩
  len := by unfold start rho0; simp; omega
  slot := fun i s hi => by
    match i, hi with
    | 0, hi => cases hi; trivial
    | 1, hi =>
      cases hi
      refine ⟨.ref p, ?_, rfl⟩
      rw [List.getElem?_set_self]
      unfold start
      simp
      omega
    | i + 2, hi =>
      have : s = .no := by
        have z : (List.replicate (N.length - 2) Sl.no)[i]? = some s := hi
        have := List.mem_of_getElem? z
        exact List.eq_of_mem_replicate this
      subst this
      trivial
  apart := fun i j d e b n hi hj _ _ => by
    have no : ∀ {i : Nat} {d : Vl}, (rho0 N.length)[i]? ≠ some (.ow d) := fun {i d} z => by
      have := List.mem_of_getElem? z
      unfold rho0 at this
      rcases List.mem_cons.mp this with m | m
      · cases m
      · rcases List.mem_cons.mp m with m | m
        · cases m
        · have := List.eq_of_mem_replicate m
          cases this
    exact no hi
end
/-- the law's def from its body: the source is made, the rest is told by a plain function -/
theorem dLaw {P : Program} {w : World} {K : PySem.W.Frag} {mg : Str → Option Value} {base : Heap} {st : Stmt} {f : Addr} {fd : FuncData} {N : List Str} {k : Nat} {b : SF} {x : Str} (Fu : Fun K "law" "law" st f fd) (Sc : FnScope N [x] (defScope st)) (h2 : 2 ≤ N.length)
    (hb : ∀ (cdv : Value) (A : Around) (outer : List Env) (s : Shared) (H : Hp) (E : XK), A.guards = some [] → Room k (A.deeper (envOfC "law" (defScope st) s.heap.objs.size f cdv)) → ∀ W : WX, Takes (cxOf (L2.CX P w) P w K mg base N "law" (defScope st) f cdv A outer s H E) W →
      PassesOwn (model P w) (cxOf (L2.CX P w) P w K mg base N "law" (defScope st) f cdv A outer s H E).A (cxOf (L2.CX P w) P w K mg base N "law" (defScope st) f cdv A outer s H E).env (cxOf (L2.CX P w) P w K mg base N "law" (defScope st) f cdv A outer s H E).xe →
      PSs (cxOf (L2.CX P w) P w K mg base N "law" (defScope st) f cdv A outer s H E) (defBody st) (tSeq (tAsg (tCallS (spSource K) (WE W) (tCons (tVar 0) tNil)) (gName 1)) fun D σ H' => ∃ G, TSR rtF ⟨K, mg⟩ G W b D σ H'))
    (math : ∀ cs, cellsOk cs → ∃ S', b (rho0 N.length) ⟨cs, 0⟩ = .rt (.dat (.bool true)) S') : FnG P w K mg base (L2.CX P w) (k + 1) f fd [x] (spLaw K) := by
  refine ⟨fun vs H Q E h => ?_, fun A outer s H args us vs Q E gd hr e0 bt r h => ?_⟩
  · obtain ⟨a, ns, rfl, _⟩ := h
    rfl
  · obtain ⟨a, ns, rfl, hs, hl, q⟩ := h
    refine Fun.at Fu Sc hr e0 bt r rfl fun cdv hr' => ⟨_, hb cdv A outer s H E gd hr' (fun cls d _ H => E cls d H) (takes_of rfl rfl rfl rfl) (passes_of rfl), ?_⟩
    refine ⟨.ref a, rfl, a, ns, rfl, hs, hl, fun H' p c cs ok _ _ _ ne hp hc => ⟨⟨p, c, H'⟩, _, _, eo_law h2 ne hp hc, ?_⟩⟩
    obtain ⟨S', e⟩ := math cs ok
    rw [e]
    intro v H2 _ _ d
    have : Den K H2 (.bool true) v := d
    unfold Den at this
    subst this
    exact q H2
/-! ### tables of classes -/
theorem lookup_mem {β : Type} : ∀ {l : List (Str × β)} {n : Str} {b : β}, l.lookup n = some b → (n, b) ∈ l
  | [], n, b, h => by simp at h
  | (m, c) :: l, n, b, h => by
    by_cases e : n = m
    · subst e
      simp at h
      subst h
      exact List.mem_cons_self
    · have e' : (n == m) = false := by simpa using e
      simp [List.lookup, e'] at h
      exact List.mem_cons_of_mem _ (lookup_mem h)
theorem tabEx_of {K : PySem.W.Frag} {mg : Str → Option Value} {c : Value} {tab : List (Str × Bool)} (h : ∀ p ∈ tab, ∃ C, mg p.1 = some (.ref C) ∧ PySem.W.exmOne K (.ref C) c = some p.2) : TabEx ⟨K, mg⟩ c tab := fun n b l C e => by
  obtain ⟨D, e1, e2⟩ := h _ (lookup_mem l)
  cases e1.symm.trans e
  exact e2
theorem tabIs_of {K : PySem.W.Frag} {mg : Str → Option Value} {c : Value} {tab : List (Str × Bool)} (h0 : PySem.W.kitOne K (.type "NoneType") c = some false) (h : ∀ p ∈ tab, ∃ C, mg p.1 = some (.ref C) ∧ ExA K C ∧ PySem.W.kitOne K (.ref C) c = some p.2) : TabIs ⟨K, mg⟩ c tab := ⟨h0, fun n b l C e => by
  obtain ⟨D, e1, e2⟩ := h _ (lookup_mem l)
  cases e1.symm.trans e
  exact e2⟩
theorem cls_some {K : PySem.W.Frag} {C : Addr} (h : PySem.W.hasDictIn K C = true) : (PySem.W.clsIn K C).isSome = true := by
  obtain ⟨cd, hc, _⟩ := PySem.W.any_some h
  rw [hc]
  rfl
/-- isinstance by an own class, by a built-in one -/
theorem kit_own {K : PySem.W.Frag} {C : Addr} {t : Value} {b : Bool} (hd : PySem.W.hasDictIn K C = true) (ht : PySem.W.typeIn K (.ref C) = some (.type "type")) (hs : PySem.W.subIn K (.ref C) (.ref C) = some true) (h : PySem.W.subIn K t (.ref C) = some b) : PySem.W.kitOne K t (.ref C) = some b := by
  have ok : ((PySem.W.clsIn K C).isSome && PySem.W.typeIn K (.ref C) == some (.type "type")) = true := by rw [cls_some hd, ht]; rfl
  unfold PySem.W.kitOne
  by_cases e : (t == .ref C) = true
  · rw [if_pos e]
    rw [beq_iff_eq.mp e, hs] at h
    exact h
  · rw [if_neg e]
    show (if ((PySem.W.clsIn K C).isSome && PySem.W.typeIn K (.ref C) == some (.type "type")) = true then PySem.W.subIn K t (.ref C) else none) = _
    rw [if_pos ok]
    exact h
theorem kit_blt {K : PySem.W.Frag} {T : String} {t : Value} {b : Bool} (hm : PySem.W.kitMeta T = true) (hn : (t == .type T) = false) (h : PySem.W.subIn K t (.type T) = some b) : PySem.W.kitOne K t (.type T) = some b := by
  unfold PySem.W.kitOne
  rw [hn, if_neg Bool.false_ne_true]
  show (if PySem.W.kitMeta T = true then PySem.W.subIn K t (.type T) else none) = _
  rw [if_pos hm]
  exact h
/-! ### the end -/
section
variable {P : Program} {w : World} {K : PySem.W.Frag} {mg mb : Str → Option Value} {k : Nat} {fa a : Addr} {fd : FuncData} {x : Str} {s : Shared} {vs : List Value} {ns : List Int}
abbrev scrO (vs : List Value) : Obj := { cls := .type "list", data := .seq vs.toArray }
/-- the script's list is locked, but where it is one of the module's own -/
def scrH (K : PySem.W.Frag) (a : Addr) (vs : List Value) (ns : List Int) : Hp := fun b => if b = a ∧ K.lookup a = none then some (.frz (scrO vs) (.lst (ns.map V.int))) else none
theorem scrH_some {b : Addr} {u : HO} (h : scrH K a vs ns b = some u) : b = a ∧ K.lookup a = none ∧ u = .frz (scrO vs) (.lst (ns.map V.int)) := by
  unfold scrH at h
  by_cases z : b = a ∧ K.lookup a = none
  · rw [if_pos z] at h
    cases h
    exact ⟨z.1, z.2, rfl⟩
  · rw [if_neg z] at h
    cases h
theorem scrH_none {b : Addr} (h : b ≠ a ∨ K.lookup a ≠ none) : scrH K a vs ns b = none := if_neg fun z => h.elim (fun y => y z.1) fun y => y z.2
theorem law_endG (KX : K.In s.heap) (hns : s.heap.Ns mainGlobals mg) (hb : s.heap.Ns builtinsNs mb) (hbb : ∀ x : Str, x ≠ "__name__" → mb x = bootBuiltins x) (hlim : s.heap.NoLimit) (hg : s.gens = #[])
    (ha : s.heap.get? a = some (scrO vs)) (hi : IntsAre vs ns) (hl : ns.length ≤ 63) (hr : Room k callerA) (bind : ∀ (s : Shared) (u : Value), BindsTo s fd ⟨[u], []⟩ [(x, u)])
    (F : ∀ base : Heap, K.In base → base.Ns mainGlobals mg → FnG P w K mg base (L2.CX P w) k fa fd [x] (spLaw K)) :
    codeAny (model P w) callerA (.call (.ref fa) ⟨[.ref a], []⟩) (fun r s' => r = .ok (.ret (.bool true)) ∧ OldK s.heap s'.heap ∧ s'.os = s.os ∧ AllBare s'.gens) s := by
  have rv : Vals (ns.map V.int) vs := vals_ints hi
  have small : (ns.map V.int).length ≤ sizeLine := by rw [List.length_map, ← sizeN]; omega
  have data : ∀ {b : Addr} {o : Obj} {es : Array DictEntry} {ep : Nat}, s.heap.get? b = some o → o.data = .dict es ep → scrH K a vs ns b = none := fun {b o es ep} e d => scrH_none (.inl fun z => by
    rw [z, ha] at e
    cases e
    cases d)
  have dict : ∀ {b : Addr} {m : Str → Option Value}, s.heap.Ns b m → (hidT s.heap (scrH K a vs ns)).Ns b m := fun ⟨o, es, ep, e, d, r⟩ => ⟨o, es, ep, hidT_get e (data e d), d, r⟩
  have KH : K.In (hidT s.heap (scrH K a vs ns)) := fun b o e => hidT_get (KX b o e) (by
    by_cases z : b = a
    · exact scrH_none (.inr (by rw [← z, e]; exact fun y => nomatch y))
    · exact scrH_none (.inl z))
  have ok : HOk P w (scrH K a vs ns) s.heap := fun b u e => by
    obtain ⟨rfl, _, rfl⟩ := scrH_some e
    exact ⟨ha, small, vs, _, rv, ha⟩
  have seen : SqL K (scrH K a vs ns) a (ns.map V.int) := by
    cases e : K.lookup a with
    | none => exact .inl (.inr ⟨scrO vs, if_pos ⟨rfl, e⟩⟩)
    | some o =>
      have same := (KX a o e).symm.trans ha
      cases same
      exact .inr ⟨_, vs.toArray, _, e, rfl, rfl, rfl, by rw [List.size_toArray, ← rv.length]; exact small, by simpa using rv⟩
  have mod : Mod K mg (hidT s.heap (scrH K a vs ns)) := ⟨KH, dict hns, ⟨mb, dict hb, hbb⟩, hlim.elim fun m h => ⟨m, dict h.1, h.2⟩⟩
  have env : Env0 P w K mg (hidT s.heap (scrH K a vs ns)) callerA [] s (scrH K a vs ns) := ⟨rfl, mod, fun _ _ => of_hidT, Nat.le_of_eq (hidT_size _ _), trivial, fun _ m => absurd m List.not_mem_nil, ok, .of_eq hg⟩
  refine codeAny_mono ((F _ KH (dict hns)).run callerA [] s _ ⟨[.ref a], []⟩ [.ref a] [.ref a] (fun v _ => v = .bl true) (fun _ _ _ => False) rfl hr env (bind s _) (.cons rfl .nil) ⟨a, ns, rfl, seen, hl, fun _ => rfl⟩) fun r s' z => ?_
  cases r with
  | error e =>
    obtain ⟨_, _, _, _, _, _, _, _, _, _, _, _, no⟩ := z
    exact no.elim
  | ok fl =>
    cases fl with
    | next => exact z.elim
    | brk => exact z.elim
    | cont => exact z.elim
    | ret u =>
      obtain ⟨v, H', os, bare, un, ok', ru, rfl⟩ := z
      obtain rfl : u = Value.bool true := ru
      refine ⟨rfl, OldK.of_keep fun b o e => ?_, os, bare⟩
      cases t : scrH K a vs ns b with
      | none => exact un.keep b o e t List.not_mem_nil List.not_mem_nil
      | some u =>
        obtain ⟨rfl, _, rfl⟩ := scrH_some t
        have there := (ok' _ _ (un.frzs _ _ _ t)).1
        rw [ha] at e
        cases e
        exact there
/-- what k_head leaves, from the law's promise -/
theorem walk_G {l : PySem.W.OpenLaw} {q : Program} {loose : List Str} {XP : (Str → Option Value) → Heap → Prop} {YP : World → Heap → Prop} {d : DefRec} {K : Params → PySem.W.Frag}
    (hn : l.most = some 63) (hdf : d.params.defaults = []) (hr : Room k callerA) (hY : ∀ (w : World) (h : Heap), YP w h → (K w.params).In h)
    (F : ∀ (w : World) (mg : Str → Option Value) (fa : Addr) (h : Heap), (K w.params).In h → h.Ns mainGlobals mg → mg d.name = some (.ref fa) →
      ∃ fd : FuncData, (∀ (s : Shared) (u : Value), BindsTo s fd ⟨[u], []⟩ [(x, u)]) ∧ ∀ base : Heap, (K w.params).In base → base.Ns mainGlobals mg → FnG l.prog w (K w.params) mg base (L2.CX l.prog w) k fa fd [x] (spLaw (K w.params))) :
    PySem.W.WalkO q loose XP YP l.row.toRowW d [] (fun f vs => PySem.call f vs) := by
  refine Att.attach_call hn hdf fun w s₀ s mg mb fa o pm cd doc a vs ns G Y ho hd hcd hmg hobj hints hlen hg => ?_
  obtain ⟨fd, b, f⟩ := F w mg fa _ (hY w _ Y) G.T.g hmg
  exact law_endG (hY w _ Y) G.T.g G.T.b G.T.builtins G.T.nolimit hg hobj hints hlen hr b f
end
end L2.HL

/-! repr of a dict of flat things -/
namespace L2.HL
open PySem PySem.Spec PyProof.Rows
def flatD : PyData → Bool
  | .none => true
  | .bool _ => true
  | .int _ => true
  | .str _ => true
  | _ => false
def reprDok (kvs : List (PyData × PyData)) : Bool := (kvs.all fun kv => flatD kv.1 && flatD kv.2) && (PyData.dict kvs).showable && decide ((PyData.dict kvs).shown.length ≤ 16777216) && decide ((PyData.dict kvs).depth ≤ 100)
def reprF2 : List Vl → Option Vl
  | [.dic kvs] => if reprDok kvs = true then some (.dat (.str (PyData.dict kvs).shown)) else none
  | xs => reprF xs
theorem flat_reads {K : PySem.W.Frag} {H : Hp} {h : Heap} {d : PyData} {v : V} {u : Value} (f : flatD d = true) (dn : Den K H d v) (r : RelV v u) : Reads h u d [] := by
  cases d with
  | none =>
    have e : v = .non := by unfold Den at dn; exact dn
    subst e
    obtain rfl : u = Value.none := r
    exact .none
  | bool b =>
    have e : v = .bl b := by unfold Den at dn; exact dn
    subst e
    obtain rfl : u = Value.bool b := r
    exact .bool _
  | int i =>
    have e : v = .int i := by unfold Den at dn; exact dn
    subst e
    obtain ⟨t, rfl⟩ := id r
    exact .int _ _
  | str x =>
    have e : v = .str x := by unfold Den at dn; exact dn
    subst e
    obtain ⟨t, rfl⟩ := id r
    exact .str _ _
  | list ds => cases f
  | tuple ds => cases f
  | dict ds => cases f
theorem readsAll_flat {h : Heap} : ∀ {us : List Value} {ds : List PyData}, us.length = ds.length → (∀ (i : Nat) (u : Value) (d : PyData), us[i]? = some u → ds[i]? = some d → Reads h u d []) → ReadsAll h us ds []
  | [], [], _, _ => .nil
  | u :: us, d :: ds, e, r => by
    have a := r 0 u d rfl rfl
    have b := readsAll_flat (us := us) (ds := ds) (by simpa using e) fun i u d hu hd => r (i + 1) u d (by simpa using hu) (by simpa using hd)
    exact .cons a b
  | [], d :: ds, e, _ => by simp at e
  | u :: us, [], e, _ => by simp at e
section
variable {X : Cx} {G : Gh}
theorem cl_repr2 (gd : X.A.guards = some []) (hu : X.A.units + 200 < cLine) : CallR X (.builtin "repr") (rL X reprF2 G) := by
  intro pins s σ H vs us Q I r h
  obtain ⟨xs, z, ab, hf, q⟩ := h
  unfold reprF2 at hf
  split at hf
  · rename_i kvs
    by_cases ok : reprDok kvs = true
    · rw [if_pos ok] at hf
      cases hf
      obtain ⟨v, rfl, hd⟩ := ab.one
      obtain ⟨a, e1, dr⟩ := hd.dic
      subst e1
      unfold reprDok at ok
      simp only [Bool.and_eq_true, decide_eq_true_eq] at ok
      obtain ⟨⟨⟨fl, sh⟩, sz⟩, dp⟩ := ok
      have fl := List.all_eq_true.mp fl
      obtain ⟨hs, hz, es, ep, raw, en, he⟩ := ents_of I dr
      obtain ⟨o, ho, hx, hdt⟩ := id raw
      have ent : ∀ (i : Nat) (x : DictEntry), es.toList[i]? = some x → ∃ k d, kvs[i]? = some (k, d) ∧ Reads s.heap x.key k [] ∧ Reads s.heap x.val d [] := fun i x hi => by
        have lt : i < kvs.length := by
          have := (List.getElem?_eq_some_iff.mp hi).1
          rw [Array.length_toList] at this
          omega
        obtain ⟨n, kx, vx, g1, g2, g3, g4, g5⟩ := he i kvs[i].1 kvs[i].2 (by rw [List.getElem?_eq_getElem lt])
        rw [Array.getElem?_toList] at hi
        rw [hi] at g1
        cases g1
        have f := fl _ (List.getElem_mem lt)
        rw [Bool.and_eq_true] at f
        exact ⟨_, _, by rw [List.getElem?_eq_getElem lt], flat_reads f.1 g3 g2, flat_reads f.2 g5 g4⟩
      have ra : ReadsAll s.heap (es.toList.map (·.key)) (kvs.map (·.1)) [] := readsAll_flat (by simp [en]) fun i u d hu hd => by
        rw [List.getElem?_map] at hu hd
        obtain ⟨x, ex, rfl⟩ := Option.map_eq_some_iff.mp hu
        obtain ⟨kd, ek, rfl⟩ := Option.map_eq_some_iff.mp hd
        obtain ⟨k, d, e2, r1, r2⟩ := ent i x ex
        rw [e2] at ek
        cases ek
        exact r1
      have rb : ReadsAll s.heap (es.toList.map (·.val)) (kvs.map (·.2)) [] := readsAll_flat (by simp [en]) fun i u d hu hd => by
        rw [List.getElem?_map] at hu hd
        obtain ⟨x, ex, rfl⟩ := Option.map_eq_some_iff.mp hu
        obtain ⟨kd, ek, rfl⟩ := Option.map_eq_some_iff.mp hd
        obtain ⟨k, d, e2, r1, r2⟩ := ent i x ex
        rw [e2] at ek
        cases ek
        exact r2
      have rd : Reads s.heap (.ref a) (.dict kvs) (a :: [] ++ []) := .dict ho hx.1 hdt ra rb
      have na : sysModules ∉ a :: [] ++ [] := fun m => by
        obtain rfl := List.mem_singleton.mp m
        rw [beq_self_eq_true] at hs
        cases hs
      rw [Vals.ref1 r]
      exact repr_of_reads' rd sh (fun _ => na) gd (by omega) (fun _ _ e => e) (fun h' u tk k => ⟨.str (PyData.dict kvs).shown, H, I.kept (t' := tk) k, ⟨u, rfl⟩, q _ H (Same.refl H) (Vl.s_dn _)⟩) (by rw [← sizeN]; exact sz)
    · rw [if_neg ok] at hf; cases hf
  · exact cl_repr gd hu pins s σ H vs us Q I r ⟨xs, z, ab, hf, q⟩
end
end L2.HL

set_option maxHeartbeats 8000000
/-! defs that are given new lists and dicts of their own, change them and hand over nothing -/
namespace L2.HL
open PySem PySem.Spec PyProof.Rows
def AllO (K : PySem.W.Frag) (H : Hp) : List Vl → List V → Prop := Paired fun x v => ∃ a, v = .ref a ∧ OwnD K H a x
theorem AllO.length {K : PySem.W.Frag} {H : Hp} : ∀ {xs : List Vl} {vs : List V}, AllO K H xs vs → xs.length = vs.length
  | _, _, .nil => rfl
  | _, _, .cons _ t => by rw [List.length_cons, List.length_cons, AllO.length t]
theorem AllO.get {K : PySem.W.Frag} {H : Hp} : ∀ {xs : List Vl} {vs : List V}, AllO K H xs vs → ∀ {i : Nat} {x : Vl}, xs[i]? = some x → ∃ a, vs[i]? = some (.ref a) ∧ OwnD K H a x
  | _, _, .cons h t, 0, x, e => by
    obtain ⟨a, rfl, o⟩ := h
    simp at e
    subst e
    exact ⟨a, rfl, o⟩
  | _, _, .cons h t, i + 1, x, e => AllO.get t (by simpa using e)
/-- the promise -/
def spO (X : KM) (F : Fm) : Sp := fun vs H Q _ => ∃ G xs S, SrcOk G H S ∧ AllO X.K H xs vs ∧ vs.Nodup ∧ V.ref G.a0 ∉ vs ∧ V.ref G.c0 ∉ vs ∧ match F xs S with
  | .ok _ S' => ∀ H', (∀ a o, H a = some o → a ≠ G.a0 → a ≠ G.c0 → V.ref a ∉ vs → H' a = some o) → SrcOk G H' S' → Q .non H'
  | _ => False
def env0O (n : Nat) (xs : List Vl) : En := xs.map .ow ++ List.replicate (n - xs.length) .no
def defO (n m : Nat) (b : SF) : Fm := fun xs S => if xs.length = m then (match b (env0O n xs) S with
  | .nx _ S' => .ok (.dat .none) S'
  | _ => .stuck) else .stuck
/-- the heap without these -/
noncomputable def less (H : Hp) (vs : List V) : Hp := fun b => by
  classical
  exact if V.ref b ∈ vs then none else H b
theorem less_of {H : Hp} {vs : List V} {b : Addr} (h : V.ref b ∉ vs) : less H vs b = H b := by
  unfold less
  exact if_neg h
theorem less_in {H : Hp} {vs : List V} {b : Addr} (h : V.ref b ∈ vs) : less H vs b = none := by
  unfold less
  exact if_pos h
theorem less_some {H : Hp} {vs : List V} {b : Addr} {o : HO} (h : less H vs b = some o) : V.ref b ∉ vs ∧ H b = some o := by
  by_cases m : V.ref b ∈ vs
  · rw [less_in m] at h; cases h
  · rw [less_of m] at h; exact ⟨m, h⟩
theorem eo_startO {X : KM} {G : Gh} {H : Hp} {S : Src} {N : List Str} {xs : List Vl} {vs : List V} (hs : SrcOk G H S) (ao : AllO X.K H xs vs) (nd : vs.Nodup) (n1 : V.ref G.a0 ∉ vs) (n2 : V.ref G.c0 ∉ vs) : EO X { G with H0 := less H vs } H (start N vs) (env0O N.length xs) S where
  same := fun a o h _ _ => (less_some h).2
  src0 := by
    show less H vs G.a0 ≠ none ∧ less H vs G.c0 ≠ none
    rw [less_of n1, less_of n2, hs.2.1, hs.2.2]
    exact ⟨(fun z => nomatch z), (fun z => nomatch z)⟩
  src := hs
  len := by unfold start env0O; simp [ao.length]
  slot := fun i s hi => by
    unfold env0O at hi
    by_cases lt : i < xs.length
    · rw [List.getElem?_append_left (by rwa [List.length_map]), List.getElem?_map, List.getElem?_eq_getElem lt] at hi
      cases hi
      obtain ⟨a, hv, od⟩ := ao.get (List.getElem?_eq_getElem lt)
      refine ⟨a, ?_, less_in (List.mem_of_getElem? hv), od⟩
      unfold start
      rw [List.getElem?_append_left (by rw [List.length_map]; exact lt_of_get hv), List.getElem?_map, hv]
      rfl
    · rw [List.getElem?_append_right (by rw [List.length_map]; omega)] at hi
      obtain rfl : s = .no := by
        have := List.getElem?_eq_some_iff.mp hi
        obtain ⟨_, e⟩ := this
        rw [List.getElem_replicate] at e
        exact e.symm
      trivial
  apart := fun i j d e a n hi hj si sj => by
    have at_ : ∀ {i : Nat} {d : Vl}, (env0O N.length xs)[i]? = some (.ow d) → (start N vs)[i]? = some (some (.ref a)) → vs[i]? = some (.ref a) := fun {i d} hi si => by
      unfold env0O at hi
      by_cases lt : i < xs.length
      · have lv : i < vs.length := by rw [← ao.length]; exact lt
        unfold start at si
        rw [List.getElem?_append_left (by rwa [List.length_map]), List.getElem?_map, List.getElem?_eq_getElem lv] at si
        rw [List.getElem?_eq_getElem lv]
        exact Option.some.inj si
      · rw [List.getElem?_append_right (by rw [List.length_map]; omega)] at hi
        have := List.getElem?_eq_some_iff.mp hi
        obtain ⟨_, e⟩ := this
        rw [List.getElem_replicate] at e
        cases e
    have vi := at_ hi si
    have vj := at_ hj sj
    obtain ⟨li, ei⟩ := List.getElem?_eq_some_iff.mp vi
    obtain ⟨lj, ej⟩ := List.getElem?_eq_some_iff.mp vj
    have pw := List.pairwise_iff_getElem.mp nd
    rcases Nat.lt_or_gt_of_ne n with lt | lt
    · exact pw i j li lj lt (ei.trans ej.symm)
    · exact pw j i lj li lt (ej.trans ei.symm)
section
variable {P : Program} {w : World} {K : PySem.W.Frag} {mg : Str → Option Value} {base : Heap} {x qual : Str} {st : Stmt} {f : Addr} {fd : FuncData} {N ps : List Str} {k : Nat} {b : SF}
theorem dDefO (Fu : Fun K x qual st f fd) (Sc : FnScope N ps (defScope st)) (hb : Body rtF P w K mg base N qual st f k b) : FnOk P w K mg base (L2.CX P w) (k + 1) f fd ps (spO ⟨K, mg⟩ (defO N.length ps.length b)) := by
  have len : ∀ {vs : List V} {H : Hp} {Q : VK} {E : XK}, spO ⟨K, mg⟩ (defO N.length ps.length b) vs H Q E → vs.length = ps.length := fun {vs H Q E} ⟨G, xs, S, _, ao, _, _, _, q⟩ => by
    by_cases z : xs.length = ps.length
    · rw [← ao.length]; exact z
    · unfold defO at q
      rw [if_neg z] at q
      exact q.elim
  refine Fu.okX Sc (fun vs H Q E h => len h) fun cdv A outer s H vs Q E hr h => ?_
  have hl := len h
  obtain ⟨G, xs, S, hs, ao, nd, n1, n2, q⟩ := h
  refine ⟨_, hb cdv A outer s H E hr { G with H0 := less H vs } (fun cls d _ H => E cls d H) (takes_of rfl rfl rfl rfl) (passes_of rfl), _, S, eo_startO (X := ⟨K, mg⟩) hs ao nd n1 n2, ?_⟩
  unfold defO at q
  rw [if_pos (ao.length.trans hl)] at q
  cases e : b (env0O N.length xs) S with
  | nx ρ S' =>
    rw [e] at q
    exact fun σ' H' eo' _ => q H' (fun a o ha x1 x2 m => eo'.same a o (by show less H vs a = some o; rw [less_of m]; exact ha) x1 x2) eo'.src
  | rt x S' => rw [e] at q; exact q.elim
  | exn c a ρ S' => rw [e] at q; exact q.elim
  | bk ρ S' => rw [e] at q; exact q.elim
  | ct ρ S' => rw [e] at q; exact q.elim
  | stuck => rw [e] at q; exact q.elim
end
/-- f(e1, e2) of two new ones, as a statement -/
def sDropO (F : Fm) (u v : EF) : SF := fun ρ S => SOut.letV (u ρ S) ρ fun x S1 => SOut.letV (v ρ S1) ρ fun y S2 => if x.box = true ∧ y.box = true then (match F [x, y] S2 with
  | .ok _ S3 => .nx ρ S3
  | _ => .stuck) else .stuck
section
variable {X : Cx} {G : Gh} {W : WX} {x : Str} {e1 e2 : Expr} {u1 u2 : EF} {F : Fm} {k : Nat} {f : Addr} {fd : FuncData} {ps : List Str} {p pos pos' : Pos} {RR : RL}
theorem OwnD.ext {K : PySem.W.Frag} {G : Gh} {H H' : Hp} {a : Addr} {z : Vl} {S : Src} (hs : SrcOk G H S) (n0 : a ≠ G.a0) (nc : a ≠ G.c0) (o : OwnD K H a z) (e : Ext G H H') : OwnD K H' a z := by
  obtain ⟨w, ew, mu, nf, nt⟩ := OwnD.some o
  exact OwnD.pers (Ext.pers hs e) ((e a _ ew n0 nc).trans ew.symm) o
theorem dn_box {X : KM} {G : Gh} {H H' : Hp} {x : Vl} {v : V} (hb : x.box = true) (d : DN X G H H' x v) : ∃ a, v = .ref a ∧ H a = none ∧ OwnD X.K H' a x := by
  rcases d with ⟨_, z⟩ | ⟨b, _⟩
  · exact z
  · rw [hb] at b; cases b
theorem dDropO (FO : FnOk X.prog X.w X.K X.mg X.base (L2.CX X.prog X.w) k f fd ps (spO X.km F)) (hr : Room k X.A) (hm : X.mg x = some (.ref f)) (hk : PySem.W.keepIn X.K (.ref f) = true) (hb : Binds X.K fd ps []) (tk : Takes X W) (ha : PA X (e1 :: [e2]) (tCons (TR DN X.km G W u1) (tCons (TR DN X.km G W u2) tNil))) (hg : Gl X x := by rfl) (hdb : (x == ("__debug__" : Str)) = false := by decide)
    (he : starEach (e1 :: [e2]) X.env = (false, eval e1 X.env) :: starEach [e2] X.env := by rfl) (hpl : (backTo pos (starEach [e2] X.env)).any (·.1) = false := by rfl) (hs : swapsWith (.Call (.Name x p) (e1 :: [e2]) [] pos) none pos'.line X.env = pure false := by rfl) :
    DS1 RR X G W (.Expr (.Call (.Name x p) (e1 :: [e2]) [] pos) pos') (sDropO F u1 u2) :=
  PS.weak (ps_expr (pe_callS FO hr hg hm hk hb (fun σ => passAt tk σ) ha hdb he hpl) hs) fun D σ H ⟨ρ, S, eo, q⟩ => by
    unfold sDropO at q
    refine ⟨ρ, S, eo, ?_⟩
    cases h1 : u1 ρ S with
    | stuck => rw [h1] at q; exact q
    | exn c fl S1 => rw [h1] at q; exact fun cls d H' x1 x2 x3 => q cls d σ H' (eo.ext x1 x2) (Ext.pers eo.src x1) x3
    | ok x1 S1 =>
      rw [h1] at q
      intro v1 H1 g1 sr1 d1
      refine ⟨ρ, S1, eo.ext g1 sr1, ?_⟩
      dsimp only [SOut.letV] at q
      cases h2 : u2 ρ S1 with
      | stuck => rw [h2] at q; exact q
      | exn c fl S2 => rw [h2] at q; exact fun cls d H' y1 y2 y3 => q cls d σ H' (eo.ext (g1.trans y1) y2) (Ext.pers eo.src (g1.trans y1)) y3
      | ok x2 S2 =>
        rw [h2] at q
        intro v2 H2 g2 sr2 d2
        dsimp only [SOut.letV] at q
        by_cases bx : x1.box = true ∧ x2.box = true
        · rw [if_pos bx] at q
          cases hF : F [x1, x2] S2 with
          | stuck => rw [hF] at q; exact q.elim
          | exn c fl S3 => rw [hF] at q; exact q.elim
          | ok z S3 =>
            rw [hF] at q
            obtain ⟨a1, rfl, n1, o1⟩ := dn_box bx.1 d1
            obtain ⟨a2, rfl, n2, o2⟩ := dn_box bx.2 d2
            have s0 := eo.src
            have a1a : a1 ≠ G.a0 := fun z => by rw [z, s0.2.1] at n1; cases n1
            have a1c : a1 ≠ G.c0 := fun z => by rw [z, s0.2.2] at n1; cases n1
            have a2a : a2 ≠ G.a0 := fun z => by rw [z, sr1.2.1] at n2; cases n2
            have a2c : a2 ≠ G.c0 := fun z => by rw [z, sr1.2.2] at n2; cases n2
            obtain ⟨w1, ew1, _⟩ := OwnD.some o1
            have ne : a1 ≠ a2 := fun z => by rw [z, n2] at ew1; cases ew1
            have h2n : H a2 = none := by
              cases z : H a2 with
              | none => rfl
              | some o => have := g1 a2 o z a2a a2c; rw [n2] at this; cases this
            refine ⟨G, [x1, x2], S2, sr2, .cons ⟨a1, rfl, OwnD.ext sr1 a1a a1c o1 g2⟩ (.cons ⟨a2, rfl, o2⟩ .nil), ?_, ?_, ?_, ?_⟩
            · simp [ne]
            · simp [Ne.symm a1a, Ne.symm a2a]
            · simp [Ne.symm a1c, Ne.symm a2c]
            · rw [hF]
              intro H3 keep sr3
              have ex : Ext G H H3 := fun a o ho x y => keep a o (g2 a o (g1 a o ho x y) x y) x y (fun m => by
                simp only [List.mem_cons, List.not_mem_nil, or_false] at m
                rcases m with m | m
                · cases m; rw [n1] at ho; cases ho
                · cases m; rw [h2n] at ho; cases ho)
              exact q σ H3 (eo.ext ex sr3) (Ext.pers eo.src ex)
        · rw [if_neg bx] at q; exact q.elim
end
end L2.HL

/-! a tuple read backwards: t[::-1] -/
namespace L2.HL
open PySem PySem.Spec PyProof.Rows
section
variable {prog : Program} {w : World} {A : Around} {E : Value → Shared → Prop} {s : Shared}
theorem back_places (n : Nat) : Builtin.Slice.slicePlaces ((n : Int) - 1) (-1) (-1) = n := by
  unfold Builtin.Slice.slicePlaces
  have h1 : ¬ ((-1 : Int) > 0) := by decide
  simp only [h1, if_false, Int.neg_neg, Int.ediv_one]
  split <;> omega
theorem back_adjust (n : Nat) : Builtin.Slice.sliceAdjust none none (-1) (n : Int) = ((n : Int) - 1, -1) := by
  unfold Builtin.Slice.sliceAdjust
  have h1 : ((-1 : Int) < 0) := by decide
  simp only [h1, if_true]
theorem fm_congr {α β : Type} {f g : α → Option β} : ∀ {l : List α}, (∀ x ∈ l, f x = g x) → l.filterMap f = l.filterMap g
  | [], _ => rfl
  | a :: l, h => by
    rw [List.filterMap_cons, List.filterMap_cons, h a List.mem_cons_self, fm_congr fun x m => h x (List.mem_cons_of_mem _ m)]
theorem back_pick (xs : Array Value) : ((List.range xs.size).filterMap fun (m : Nat) => xs[(((xs.size : Int) - 1) + (m : Int) * -1).toNat]?) = xs.toList.reverse := by
  have e : ((List.range xs.size).filterMap fun (m : Nat) => xs[(((xs.size : Int) - 1) + (m : Int) * -1).toNat]?) = (List.range xs.size).filterMap fun m => xs[xs.size - 1 - m]? := by
    refine fm_congr fun m hm => ?_
    have := List.mem_range.mp hm
    rw [show (((xs.size : Int) - 1) + (m : Int) * -1).toNat = xs.size - 1 - m by omega]
  rw [e]
  have e2 := PySem.W.krv_all xs
  have e3 := congrArg List.reverse e2
  rw [← List.filterMap_reverse, ← PySem.W.krv_range, List.filterMap_map] at e3
  exact e3
theorem applied_back {sl : Addr} {vl vu vs : Value} {n : Nat} {Q : Int × Int × Nat → Shared → Prop} (hs : s.heap.IsSliceOf sl vl vu vs) (pl : IsPart vl none) (pu : IsPart vu none) (ps : IsPart vs (some (-1)))
    (h : Q ((n : Int) - 1, -1, n) s) : wpAny (model prog w) A (Builtin.Slice.sliceApplied (.ref sl) (pure (n : Int))) Q E s := by
  obtain ⟨o, ho, _, hd⟩ := id hs
  unfold Builtin.Slice.sliceApplied Builtin.Slice.sliceFields
  have z : ((-1 : Int) == 0) = false := rfl
  have last : wpAny (model prog w) A (match Builtin.Slice.sliceAdjust none none (-1) (n : Int) with | (lo, hi) => pure (lo, (-1 : Int), Builtin.Slice.slicePlaces lo hi (-1))) Q E s := by
    rw [back_adjust]
    show wpAny _ _ (pure ((n : Int) - 1, (-1 : Int), Builtin.Slice.slicePlaces ((n : Int) - 1) (-1) (-1))) _ _ s
    rw [back_places]
    exact wpAny_pure h
  have mid : wpAny (model prog w) A (if ((-1 : Int) == 0) = true then (do rule "slice.step-zero"; raiseError "ValueError" "slice step cannot be zero") else (do
      let start ← Builtin.Slice.slicePartIndex vl
      let stop ← Builtin.Slice.slicePartIndex vu
      let (lo, hi) := Builtin.Slice.sliceAdjust start stop (-1) (← (pure (n : Int) : Sem Int))
      return (lo, (-1 : Int), Builtin.Slice.slicePlaces lo hi (-1)))) Q E s := by
    rw [z, if_neg Bool.false_ne_true]
    exact wpAny_bind (HT.slicePart_ pl (wpAny_bind (HT.slicePart_ pu (wpAny_bind (wpAny_pure last)))))
  exact wpAny_bind (wpAny_bind (wpAny_field ho hd (x := vl) rfl (wpAny_bind (wpAny_field ho hd (x := vu) rfl (wpAny_bind (wpAny_field ho hd (x := vs) rfl (wpAny_pure (wpAny_bind (HT.slicePart_ ps mid)))))))))
/-- t[::-1] of a tuple: a new one -/
theorem getItem_back {t sl : Addr} {items : Array Value} {vl vu vs : Value} {Q : Value → Shared → Prop} (ht : IsTup s.heap t items) (hs : s.heap.IsSliceOf sl vl vu vs) (pl : IsPart vl none) (pu : IsPart vu none) (ps : IsPart vs (some (-1)))
    (h : Q (.ref s.heap.objs.size) { s with heap := s.heap.push { cls := .type "tuple", data := .seq items.toList.reverse.toArray } }) (hsz : items.size ≤ sizeLine) : wpAny (model prog w) A (getItem (.ref t) (.ref sl)) Q E s := by
  have fits : sizeOk (.seq items.toList.reverse.toArray) := by
    show items.toList.reverse.toArray.size ≤ sizeLine
    rw [List.size_toArray, List.length_reverse, Array.length_toList]
    exact hsz
  have isS : s.TypeIs (.ref sl) "slice" := by
    obtain ⟨o, ho, hc, _⟩ := id hs
    exact ⟨o, ho, hc⟩
  unfold getItem
  refine wpAny_holding (wpAny_bind (wpAny_sequenceKey ht.typeIs (by decide) (wpAny_bind (wpAny_callSpecial?_slot (name := Str.ofString "__getitem__") ht.typeIs PyProof.Rows.slot_tuple_getitem (wpAny_call_entry PyProof.Rows.slot_tuple_getitem ht.typeIs entry_tuple_getitem ?_ (args_tuple_getitem _ _))))))
  show wpAny _ _ (Builtin.Tuple.tupleItemsOf (.ref t) >>= _) _ _ s
  refine wpAny_bind (tupleItemsOf_ ht (wpAny_bind (wpAny_typeOf isS ?_)))
  rw [if_pos (by decide)]
  refine wpAny_bind (applied_back hs pl pu ps ?_)
  have no : ¬ ((((items.size : Int) - 1) == 0 && (-1 : Int) == 1 && items.size == items.size) = true) := by
    have : ((-1 : Int) == 1) = false := rfl
    rw [this, Bool.and_false, Bool.false_and]
    exact Bool.false_ne_true
  show wpAny _ _ (if (((items.size : Int) - 1) == 0 && (-1 : Int) == 1 && items.size == items.size) = true then _ else _) _ _ s
  rw [if_neg no, back_pick]
  first
    | exact wpAny_bind (m := Builtin.Tuple.tupleExact _) (wpAny_newObj_type (wpAny_pure ⟨_, rfl, wpAny_pure h⟩) fits)
    | exact wpAny_bind (m := Builtin.Tuple.tupleExact _) (wpAny_newObj_type (wpAny_bind (wpAny_pure (wpAny_pure ⟨_, rfl, wpAny_pure h⟩))) fits)
    | exact wpAny_bind (wpAny_bind (m := Builtin.Tuple.tupleExact _) (wpAny_newObj_type (wpAny_pure (wpAny_pure ⟨_, rfl, wpAny_pure h⟩)) fits))
    | exact wpAny_bind (wpAny_bind (m := Builtin.Tuple.tupleExact _) (wpAny_newObj_type (wpAny_pure ⟨_, rfl, wpAny_pure h⟩) fits))
end
/-- xs[::-1] of a list or a tuple -/
def tBack (K : PySem.W.Frag) (te : TE) : TE := fun σ H Q => te σ H fun x H1 => ∃ a xs, x = .ref a ∧ ((SqL K H1 a xs ∧ ∀ p, H1 p = none → Q (.ref p) (upd H1 p (.lst xs.reverse))) ∨ (SqT K H1 a xs ∧ ∀ p, H1 p = none → Q (.ref p) (upd H1 p (.tup xs.reverse))))
section
variable {X : Cx}
theorem pe_back {e : Expr} {te : TE} {k : Nat} {p1 p2 p3 pos : Pos} (he : PE X e te) : PE X (.Subscript e (.Slice none none (some (.UnaryOp .USub (.Constant (.int 1) k p1) p2)) p3) pos) (tBack X.K te) := by
  refine ⟨fun pins s σ H Q I h => Subscript_ (thn (he.run pins s σ H _ I h) fun v s1 ⟨x, H1, I1, r1, q1⟩ => ?_)⟩
  obtain ⟨a, xs, rfl, q1⟩ := q1
  cases r1
  have step : PO X (some (.UnaryOp .USub (.Constant (.int 1) k p1) p2)) (tPart (tUn (rU fun i => .int (-i)) (tC (.int 1)))) := po_some (pe_un un_neg pe_int)
  refine wpAny_Slice (thn (po_none.run pins s1 σ H1 (fun o H2 => o = none ∧ H2 = H1) I1 ⟨rfl, rfl⟩) fun vl s2 ⟨l, H2, I2, pl, el, e2⟩ => thn (po_none.run pins s2 σ H2 (fun o H3 => o = none ∧ H3 = H2) I2 ⟨rfl, rfl⟩) fun vu s3 ⟨u, H3, I3, pu, eu, e3⟩ => thn (step.run pins s3 σ H3 (fun o H4 => o = some (-1) ∧ H4 = H3) I3 ⟨1, rfl, -1, rfl, rfl, rfl⟩) fun vs s4 ⟨o, H4, I4, ps, eo, e4⟩ => ?_)
  subst el e2 eu e3 eo e4
  have I5 : Inv X pins σ H4 { s4 with heap := s4.heap.push { cls := .type "slice", data := .fields #[vl, vu, vs] } } := I4.kept (t' := s4.toks) fun b ob q => Heap.get?_push_of_some _ q
  show wpAny (model X.prog X.w) X.A (subscriptTail e (.Slice none none (some (.UnaryOp .USub (.Constant (.int 1) k p1) p2)) p3) (.ref a) (.ref s4.heap.objs.size)) (EP X pins σ Q) X.xe { s4 with heap := s4.heap.push { cls := .type "slice", data := .fields #[vl, vu, vs] } }
  rcases q1 with ⟨hx, q⟩ | ⟨hx, q⟩
  · obtain ⟨its, r, ht, hz⟩ := I5.list hx
    have hlen := r.length
    refine tail_any (ops := [.ref a, .ref s4.heap.objs.size]) ht.isList.typeIs (PySem.slot_list_getitem.lookup) (wpAny_getItem_list_slice ht.isList (Heap.IsSliceOf.new _ vl vu vs) pl pu ps (by decide) ?_ (by rw [List.size_toArray]; omega)) (by with_unfolding_all rfl)
    rw [PySem.W.krv_pick]
    exact ⟨.ref _, _, I5.laid (t' := s4.toks) (o := .lst xs.reverse) (fun b ob q => Heap.get?_push_of_some _ q) (Nat.le_refl _) ⟨by rw [List.length_reverse]; exact hz, _, 0, r.reverse, Heap.get?_push_size _ rfl⟩, rfl, q _ (I5.hok.fresh (Nat.le_refl _))⟩
  · obtain ⟨its, r, ht, hz⟩ := I5.tuple hx
    have hlen := r.length
    refine tail_any (ops := [.ref a, .ref s4.heap.objs.size]) ht.typeIs (PyProof.Rows.slot_tuple_getitem.lookup) (getItem_back ht (Heap.IsSliceOf.new _ vl vu vs) pl pu ps ?_ (by rw [List.size_toArray]; omega)) (by with_unfolding_all rfl)
    exact ⟨.ref _, _, I5.laid (t' := s4.toks) (o := .tup xs.reverse) (fun b ob q => Heap.get?_push_of_some _ q) (Nat.le_refl _) ⟨by rw [List.length_reverse]; exact hz, _, r.reverse, IsTup.new _ _⟩, rfl, q _ (I5.hok.fresh (Nat.le_refl _))⟩
end
def revV2 : Vl → Option Vl
  | .dat (.list xs) => some (.dat (.list xs.reverse))
  | .dat (.tuple xs) => some (.dat (.tuple xs.reverse))
  | _ => none
section
variable {X : Cx} {G : Gh} {W : WX} {e : Expr} {u : EF} {pos : Pos}
theorem dRev2 {k : Nat} {p1 p2 p3 : Pos} (he : DV X G W e u) : DO X G W (.Subscript e (.Slice none none (some (.UnaryOp .USub (.Constant (.int 1) k p1) p2)) p3) pos) (fU revV2 u) := PE.weak (pe_back he) fun σ H Q q => by
  show TR DB X.km G W u σ H _
  refine TR.of (TG1.bind ups_dn q.g fun ρ x v S S1 H1 eo eo1 e1 r1 q1 => ?_)
  unfold revV2 at q1
  split at q1
  · obtain ⟨a, xs, rfl, rd, dl⟩ := DB.list r1
    have sq : SqL X.K H1 a xs := by
      rcases rd with h | ⟨o, h⟩
      · exact .inl (.inl h)
      · exact .inl (.inr ⟨o, h⟩)
    exact ⟨a, xs, rfl, .inl ⟨sq, fun p hp => q1.put eo1.src (same_new hp) (.inl ⟨rfl, p, rfl, hp, _, upd_same, DenL.pers (Same.pers (same_new hp)) _ _ dl.reverse⟩)⟩⟩
  · obtain ⟨a, xs, rfl, tp, dl⟩ := DB.tup r1
    exact ⟨a, xs, rfl, .inr ⟨tp.sq, fun p hp => q1.put eo1.src (same_new hp) (DN.tup hp dl.reverse)⟩⟩
  · exact q1.elim
end
end L2.HL

namespace K02
open PySem PySem.Spec PyProof.Rows L2 L2.HL
def topS (i : Nat) : Stmt := PySem.Challenge.pw_likeholes_k02_slots_and_kinds.main.body.getD i (.Pass ⟨0, 0, 0, 0⟩)
abbrev s__law_source : Stmt := topS 27
theorem sc__law_source : FnScope ["_law_script", "_law_cells", "_law_k"] ["_law_script"] (defScope s__law_source) := ⟨rfl, rfl, rfl, by decide +kernel, rfl, by decide +kernel, by decide +kernel⟩
abbrev s__law_draw : Stmt := topS 28
theorem sc__law_draw : FnScope ["_law_source_here", "_law_limit", "_law_cells", "_law_turn", "_law_at", "_law_cell", "_law_number", "_law_other"] ["_law_source_here", "_law_limit"] (defScope s__law_draw) := ⟨rfl, rfl, rfl, by decide +kernel, rfl, by decide +kernel, by decide +kernel⟩
abbrev F__law_draw : Fm := F_draw
abbrev s_is_integer : Stmt := topS 11
theorem sc_is_integer : FnScope ["value"] ["value"] (defScope s_is_integer) := ⟨rfl, rfl, rfl, by decide +kernel, rfl, by decide +kernel, by decide +kernel⟩
def B_is_integer : SF := (sRet (fAndV (fU (isiV "int") (fVarV 0)) (fNotV (fU (isiV "bool") (fVarV 0)))))
def F_is_integer : Fm := defF 1 1 B_is_integer
abbrev s_is_word : Stmt := topS 12
theorem sc_is_word : FnScope ["value", "letter"] ["value"] (defScope s_is_word) := ⟨rfl, rfl, rfl, by decide +kernel, rfl, by decide +kernel, by decide +kernel⟩
def B_is_word : SF := (sRet (fAndV (fU (isiV "str") (fVarV 0)) (fAndV (fB (fCh leD leD (fC (.int 1)) (fAll lenF (fCons (fVarV 0) fNil)) (fC (.int 8)))) (fAll allF (fCons (fLc (fIt (fVar 0)) (.one 1) [1] (fun _ S => .ok true S) (fB (fCp inV (fVarV 1) (fC (.str "abcdefghijklmnopqrstuvwxyz"))))) fNil)))))
def F_is_word : Fm := defF 2 1 B_is_word
abbrev s_are_kinds : Stmt := topS 13
theorem sc_are_kinds : FnScope ["value", "least", "most", "entry"] ["value", "least", "most"] (defScope s_are_kinds) := ⟨rfl, rfl, rfl, by decide +kernel, rfl, by decide +kernel, by decide +kernel⟩
def B_are_kinds : SF := (sRet (fAndV (fU (isiV "tuple") (fVarV 0)) (fAndV (fB (fCh leD leD (fVarV 1) (fAll lenF (fCons (fVarV 0) fNil)) (fVarV 2))) (fAll allF (fCons (fLc (fIt (fVar 0)) (.one 3) [3] (fun _ S => .ok true S) (fCall F_is_word (fCons (fVar 3) fNil))) fNil)))))
def F_are_kinds : Fm := defF 4 3 B_are_kinds
abbrev s_is_item : Stmt := topS 14
theorem sc_is_item : FnScope ["items", "k", "item"] ["items", "k"] (defScope s_is_item) := ⟨rfl, rfl, rfl, by decide +kernel, rfl, by decide +kernel, by decide +kernel⟩
def B_is_item : SF := (sSeq (sSet 2 (fOpE idxV (fVarV 0) (fVarV 1)))
    (sSeq (sIf (fOr (fNot (fAsB (fU (isiV "tuple") (fVarV 2)))) (fOr (fCp neD (fAll lenF (fCons (fVarV 2) fNil)) (fC (.int 3))) (fOr (fNot (fAsB (fCall F_is_word (fCons (fOpE idxV (fVarV 2) (fC (.int 0))) fNil)))) (fNot (fAsB (fCall F_is_word (fCons (fOpE idxV (fVarV 2) (fC (.int 1))) fNil))))))) (sRet (fC (.bool false))) .nx)
    (sSeq (sIf (fNot (fAsB (fCall F_are_kinds (fCons (fOpE idxV (fVarV 2) (fC (.int 2))) (fCons (fC (.int 0)) (fCons (fC (.int 4)) fNil)))))) (sRet (fC (.bool false))) .nx)
    (sRet (fOrV (fB (fCp eqD (fVarV 1) (fC (.int 0)))) (fB (fCp ltD (fOpE idxV (fOpE idxV (fVarV 0) (fOp subV (fVarV 1) (fC (.int 1)))) (fC (.int 0))) (fOpE idxV (fVarV 2) (fC (.int 0))))))))))
def F_is_item : Fm := defF 3 2 B_is_item
abbrev s_all_kinds : Stmt := topS 15
theorem sc_all_kinds : FnScope ["inventory", "kinds", "name", "kind", "slots"] ["inventory"] (defScope s_all_kinds) := ⟨rfl, rfl, rfl, by decide +kernel, rfl, by decide +kernel, by decide +kernel⟩
def B_all_kinds : SF := (sSeq (sSet 1 (fAll listF2 (fCons (fOpE idxV (fVarV 0) (fC (.int 0))) fNil)))
    (sSeq (sFor (fIt (fOpE idxV (fVarV 0) (fC (.int 1)))) (.many [2, 3, 4]) (sSet 1 (fOp addV (fOp addV (fVarV 1) (fAll lstF (fCons (fVar 3) fNil))) (fAll listF2 (fCons (fVarV 4) fNil)))))
    (sRet (fU sortSetV (fVarV 1)))))
def F_all_kinds : Fm := defF 5 1 B_all_kinds
abbrev s_inventory_error : Stmt := topS 16
theorem sc_inventory_error : FnScope ["value", "roots", "items", "k"] ["value"] (defScope s_inventory_error) := ⟨rfl, rfl, rfl, by decide +kernel, rfl, by decide +kernel, by decide +kernel⟩
def B_inventory_error : SF := (sSeq (sIf (fOr (fNot (fAsB (fU (isiV "tuple") (fVarV 0)))) (fCp neD (fAll lenF (fCons (fVarV 0) fNil)) (fC (.int 2)))) (sRet (fAll tupF (fCons (fC (.str "inventory")) fNil))) .nx)
    (sSeq (sUnp (.many [1, 2]) (fVar 0))
    (sSeq (sIf (fNot (fAsB (fCall F_are_kinds (fCons (fVar 1) (fCons (fC (.int 1)) (fCons (fC (.int 4)) fNil)))))) (sRet (fAll tupF (fCons (fC (.str "roots")) fNil))) .nx)
    (sSeq (sIf (fOr (fNot (fAsB (fU (isiV "list") (fVarV 2)))) (fNot (fCh leD leD (fC (.int 1)) (fAll lenF (fCons (fVarV 2) fNil)) (fC (.int 24))))) (sRet (fAll tupF (fCons (fC (.str "items")) fNil))) .nx)
    (sSeq (sFor (fRng1 (fCons (fAll lenF (fCons (fVarV 2) fNil)) fNil)) (.one 3) (sIf (fNot (fAsB (fCall F_is_item (fCons (fVar 2) (fCons (fVar 3) fNil))))) (sRet (fAll tupF (fCons (fC (.str "item")) (fCons (fVar 3) fNil)))) .nx))
    (sRet (fIf (fCp gtD (fAll lenF (fCons (fCall F_all_kinds (fCons (fVar 0) fNil)) fNil)) (fC (.int 6))) (fAll tupF (fCons (fC (.str "kinds")) fNil)) (fC .none))))))))
def F_inventory_error : Fm := defF 4 1 B_inventory_error
abbrev s_check_inventory : Stmt := topS 17
theorem sc_check_inventory : FnScope ["inventory", "reason"] ["inventory"] (defScope s_check_inventory) := ⟨rfl, rfl, rfl, by decide +kernel, rfl, by decide +kernel, by decide +kernel⟩
def B_check_inventory : SF := (sSeq (sSet 1 (fCall F_inventory_error (fCons (fVar 0) fNil)))
    (sIf (fCp isnV (fVarV 1) (fC .none)) (sRaiseR "InvalidInventory" "reason" (fVar 1)) .nx))
def F_check_inventory : Fm := defN 2 1 B_check_inventory
abbrev s_slot_kinds : Stmt := topS 18
theorem sc_slot_kinds : FnScope ["inventory", "roots", "items", "kinds", "name", "kind", "slots", "i", "accepted"] ["inventory"] (defScope s_slot_kinds) := ⟨rfl, rfl, rfl, by decide +kernel, rfl, by decide +kernel, by decide +kernel⟩
def B_slot_kinds : SF := (sSeq (sUnp (.many [1, 2]) (fVar 0))
    (sSeq (sOwn 3 (fDc true (fEnum (fCons (fVar 1) fNil)) (.many [7, 5]) [7, 5] (fun _ S => .ok true S) (fAll tupF (fCons (fC (.str "")) (fCons (fVar 7) fNil))) (fVar 5)))
    (sSeq (sFor (fIt (fVar 2)) (.many [4, 5, 6]) (sFor (fEnum (fCons (fVar 6) fNil)) (.many [7, 8]) (sPutD 3 (fAll tupF (fCons (fVar 4) (fCons (fVar 7) fNil))) (fVar 8))))
    (sFz 3 (sRet (fVar 3))))))
def F_slot_kinds : Fm := defF 9 1 B_slot_kinds
abbrev s_item_kinds : Stmt := topS 19
theorem sc_item_kinds : FnScope ["inventory", "name", "kind", "slots"] ["inventory"] (defScope s_item_kinds) := ⟨rfl, rfl, rfl, by decide +kernel, rfl, by decide +kernel, by decide +kernel⟩
def B_item_kinds : SF := (sRet (fDc false (fIt (fOpE idxV (fVarV 0) (fC (.int 1)))) (.many [1, 2, 3]) [1, 2, 3] (fun _ S => .ok true S) (fVar 1) (fVar 2)))
def F_item_kinds : Fm := defF 4 1 B_item_kinds
abbrev s_surplus : Stmt := topS 20
theorem sc_surplus : FnScope ["inventory", "accepted", "present", "differences", "kind", "difference"] ["inventory"] (defScope s_surplus) := ⟨rfl, rfl, rfl, by decide +kernel, rfl, by decide +kernel, by decide +kernel⟩
def B_surplus : SF := (sSeq (sSet 1 (fU valsV (fCall F_slot_kinds (fCons (fVar 0) fNil))))
    (sSeq (sSet 2 (fU valsV (fCall F_item_kinds (fCons (fVar 0) fNil))))
    (sSeq (sSet 3 (fDc false (fIt (fCall F_all_kinds (fCons (fVar 0) fNil))) (.one 4) [4] (fun _ S => .ok true S) (fVar 4) (fOp subV (fCount (fVarV 1) (fCons (fVarV 4) fNil)) (fCount (fVarV 2) (fCons (fVarV 4) fNil)))))
    (sRet (fDc false (fWalk itemsL (fVar 3)) (.many [4, 5]) [4, 5] (fCp neD (fVarV 5) (fC (.int 0))) (fVar 4) (fVar 5))))))
def F_surplus : Fm := defF 6 1 B_surplus
abbrev s_is_slot : Stmt := topS 21
theorem sc_is_slot : FnScope ["inventory", "value"] ["inventory", "value"] (defScope s_is_slot) := ⟨rfl, rfl, rfl, by decide +kernel, rfl, by decide +kernel, by decide +kernel⟩
def B_is_slot : SF := (sSeq (sIf (fOr (fNot (fAsB (fU (isiV "tuple") (fVarV 1)))) (fOr (fCp neD (fAll lenF (fCons (fVarV 1) fNil)) (fC (.int 2))) (fOr (fNot (fAsB (fU (isiV "str") (fOpE idxV (fVarV 1) (fC (.int 0)))))) (fNot (fAsB (fCall F_is_integer (fCons (fOpE idxV (fVarV 1) (fC (.int 1))) fNil))))))) (sRet (fC (.bool false))) .nx)
    (sRet (fB (fCp inV (fVarV 1) (fCall F_slot_kinds (fCons (fVar 0) fNil))))))
def F_is_slot : Fm := defF 2 2 B_is_slot
abbrev s_check_slot : Stmt := topS 22
theorem sc_check_slot : FnScope ["inventory", "slot"] ["inventory", "slot"] (defScope s_check_slot) := ⟨rfl, rfl, rfl, by decide +kernel, rfl, by decide +kernel, by decide +kernel⟩
def B_check_slot : SF := (sIf (fNot (fAsB (fCall F_is_slot (fCons (fVar 0) (fCons (fVar 1) fNil))))) (sRaiseM "UnknownSlot") .nx)
def F_check_slot : Fm := defN 2 2 B_check_slot
abbrev s_list_slots : Stmt := topS 23
theorem sc_list_slots : FnScope ["inventory"] ["inventory"] (defScope s_list_slots) := ⟨rfl, rfl, rfl, by decide +kernel, rfl, by decide +kernel, by decide +kernel⟩
def B_list_slots : SF := (sSeq (sDrop (fCall F_check_inventory (fCons (fVar 0) fNil)))
    (sRet (fAll listF2 (fCons (fCall F_slot_kinds (fCons (fVar 0) fNil)) fNil))))
def F_list_slots : Fm := defF 1 1 B_list_slots
abbrev s_slot_kind : Stmt := topS 24
theorem sc_slot_kind : FnScope ["inventory", "slot"] ["inventory", "slot"] (defScope s_slot_kind) := ⟨rfl, rfl, rfl, by decide +kernel, rfl, by decide +kernel, by decide +kernel⟩
def B_slot_kind : SF := (sSeq (sDrop (fCall F_check_inventory (fCons (fVar 0) fNil)))
    (sSeq (sDrop (fCall F_check_slot (fCons (fVar 0) (fCons (fVar 1) fNil))))
    (sRet (fOpE idxV (fCall F_slot_kinds (fCons (fVar 0) fNil)) (fVarV 1)))))
def F_slot_kind : Fm := defF 2 2 B_slot_kind
abbrev s_slot_surplus : Stmt := topS 25
theorem sc_slot_surplus : FnScope ["inventory"] ["inventory"] (defScope s_slot_surplus) := ⟨rfl, rfl, rfl, by decide +kernel, rfl, by decide +kernel, by decide +kernel⟩
def B_slot_surplus : SF := (sSeq (sDrop (fCall F_check_inventory (fCons (fVar 0) fNil)))
    (sRet (fCall F_surplus (fCons (fVar 0) fNil))))
def F_slot_surplus : Fm := defF 1 1 B_slot_surplus
abbrev s__law_pick : Stmt := topS 29
theorem sc__law_pick : FnScope ["_law_source_here", "_law_values"] ["_law_source_here", "_law_values"] (defScope s__law_pick) := ⟨rfl, rfl, rfl, by decide +kernel, rfl, by decide +kernel, by decide +kernel⟩
def B__law_pick : SF := (sRet (fOpE idxV (fVarV 1) (fCall F__law_draw (fCons (fVar 0) (fCons (fAll lenF (fCons (fVarV 1) fNil)) fNil)))))
def F__law_pick : Fm := defF 2 2 B__law_pick
abbrev s__law_shuffle : Stmt := topS 30
theorem sc__law_shuffle : FnScope ["_law_source_here", "_law_values", "_law_result", "_law_value"] ["_law_source_here", "_law_values"] (defScope s__law_shuffle) := ⟨rfl, rfl, rfl, by decide +kernel, rfl, by decide +kernel, by decide +kernel⟩
def B__law_shuffle : SF := (sSeq (sOwn 2 (fAll lstF fNil))
    (sSeq (sFor (fIt (fVar 1)) (.one 3) (sDropM (fMut 2 insF (fCons (fCall F__law_draw (fCons (fVar 0) (fCons (fOp addV (fAll lenF (fCons (fVarV 2) fNil)) (fC (.int 1))) fNil))) (fCons (fVar 3) fNil)))))
    (sFz 2 (sRet (fVar 2)))))
def F__law_shuffle : Fm := defF 4 2 B__law_shuffle
abbrev s__law_items : Stmt := topS 31
theorem sc__law_items : FnScope ["_law_source_here", "_law_limit", "_law_kinds", "_law_roots", "_law_open_slots", "_law_accepted_here", "_law_built", "_law_at", "_law_place", "_law_kind", "_law_limit_here", "_law_slots_here", "_law_earlier", "_law_i", "_law_k", "_law_one"] ["_law_source_here", "_law_limit", "_law_kinds"] (defScope s__law_items) := ⟨rfl, rfl, rfl, by decide +kernel, rfl, by decide +kernel, by decide +kernel⟩
def B__law_items : SF := (sSeq (sSet 3 (fAll tupleF (fCons (fLc (fRng1 (fCons (fOp addV (fC (.int 1)) (fCall F__law_draw (fCons (fVar 0) (fCons (fOpE idxV (fAll lstF (fCons (fC (.int 1)) (fCons (fC (.int 2)) (fCons (fC (.int 4)) fNil)))) (fCall F__law_draw (fCons (fVar 0) (fCons (fC (.int 3)) fNil)))) fNil)))) fNil)) (.one 14) [14] (fun _ S => .ok true S) (fCall F__law_pick (fCons (fVar 0) (fCons (fVar 2) fNil)))) fNil)))
    (sSeq (sOwn 4 (fLc (fRng1 (fCons (fAll lenF (fCons (fVarV 3) fNil)) fNil)) (.one 13) [13] (fun _ S => .ok true S) (fAll tupF (fCons (fC (.str "")) (fCons (fVar 13) fNil)))))
    (sSeq (sOwn 5 (fAll listF2 (fCons (fVarV 3) fNil)))
    (sSeq (sOwn 6 (fAll lstF fNil))
    (sSeq (sWhile (fCp neD (fVarV 4) (fAll lstF fNil)) (sSeq (sSet 7 (fCall F__law_draw (fCons (fVar 0) (fCons (fAll lenF (fCons (fVarV 4) fNil)) fNil))))
    (sSeq (sParM 8 9 (fMut 4 popF (fCons (fVar 7) fNil)) (fMut 5 popF (fCons (fVar 7) fNil)))
    (sSeq (sSet 10 (fAll minF (fCons (fC (.int 4)) (fCons (fOp subV (fOp subV (fOp subV (fVarV 1) (fAll lenF (fCons (fVarV 6) fNil))) (fAll lenF (fCons (fVarV 4) fNil))) (fC (.int 1))) fNil))))
    (sSeq (sSet 11 (fLc (fRng1 (fCons (fAll minF (fCons (fVarV 10) (fCons (fCall F__law_draw (fCons (fVar 0) (fCons (fC (.int 5)) fNil))) fNil))) fNil)) (.one 14) [14] (fun _ S => .ok true S) (fCall F__law_pick (fCons (fVar 0) (fCons (fVar 2) fNil)))))
    (sSeq (sSet 12 (fLc (fItW (fVarV 6)) (.one 15) [15] (fAnd (fCp eqD (fOpE idxV (fVarV 15) (fC (.int 0))) (fVarV 9)) (fCp leD (fAll lenF (fCons (fOpE idxV (fVarV 15) (fC (.int 1))) fNil)) (fVarV 10))) (fOpE idxV (fVarV 15) (fC (.int 1)))))
    (sSeq (sIf (fAnd (fCp neD (fVarV 12) (fAll lstF fNil)) (fCp eqD (fCall F__law_draw (fCons (fVar 0) (fCons (fC (.int 2)) fNil))) (fC (.int 0)))) (sSet 11 (fAll listF2 (fCons (fCall F__law_pick (fCons (fVar 0) (fCons (fVar 12) fNil))) fNil))) .nx)
    (sSeq (sFor (fRng1 (fCons (fAll lenF (fCons (fVarV 11) fNil)) fNil)) (.one 13) (sSeq (sDropM (fMut 4 appF (fCons (fAll tupF (fCons (fAll lenF (fCons (fVarV 6) fNil)) (fCons (fVar 13) fNil))) fNil)))
    (sDropM (fMut 5 appF (fCons (fOpE idxV (fVarV 11) (fVarV 13)) fNil)))))
    (sDropM (fMut 6 appF (fCons (fAll tupF (fCons (fVar 9) (fCons (fAll tupleF (fCons (fVarV 11) fNil)) (fCons (fVar 8) fNil)))) fNil)))))))))) 1000)
    (sFz 6 (sRet (fAll tupF (fCons (fVar 3) (fCons (fVar 6) fNil))))))))))
def F__law_items : Fm := defF 16 3 B__law_items
abbrev s__law_inventory : Stmt := topS 32
theorem sc__law_inventory : FnScope ["_law_source_here", "_law_limit", "_law_count", "_law_kinds", "_law_roots", "_law_built", "_law_name_pool", "_law_contents", "_law_k", "_law_owner", "_law_i", "_law_items_here", "_law_place"] ["_law_source_here", "_law_limit"] (defScope s__law_inventory) := ⟨rfl, rfl, rfl, by decide +kernel, rfl, by decide +kernel, by decide +kernel⟩
def B__law_inventory : SF := (sSeq (sSet 2 (fOpE idxV (fAll lstF (fCons (fC (.int 1)) (fCons (fC (.int 2)) (fCons (fC (.int 2)) (fCons (fC (.int 3)) (fCons (fC (.int 4)) (fCons (fC (.int 6)) fNil))))))) (fCall F__law_draw (fCons (fVar 0) (fCons (fC (.int 6)) fNil)))))
    (sSeq (sSet 3 (fSl (fCall F__law_shuffle (fCons (fVar 0) (fCons (fAll lstF (fCons (fC (.str "k")) (fCons (fC (.str "l")) (fCons (fC (.str "kin")) (fCons (fC (.str "root")) (fCons (fC (.str "twelves")) (fCons (fC (.str "zz")) fNil))))))) fNil))) fNo (fPart (fVarV 2))))
    (sSeq (sUnp (.many [4, 5]) (fCall F__law_items (fCons (fVar 0) (fCons (fVar 1) (fCons (fVar 3) fNil)))))
    (sSeq (sSet 6 (fAll lstF (fCons (fC (.str "a")) (fCons (fC (.str "aa")) (fCons (fC (.str "ab")) (fCons (fC (.str "b")) (fCons (fC (.str "bar")) (fCons (fC (.str "c")) (fCons (fC (.str "cap")) (fCons (fC (.str "d")) (fCons (fC (.str "dot")) (fCons (fC (.str "e")) (fCons (fC (.str "segments")) (fCons (fC (.str "f")) (fCons (fC (.str "g")) (fCons (fC (.str "h")) (fCons (fC (.str "i")) (fCons (fC (.str "jar")) fNil))))))))))))))))))
    (sSeq (sSet 6 (fCall F__law_shuffle (fCons (fVar 0) (fCons (fOp addV (fVarV 6) (fAll lstF (fCons (fC (.str "k")) (fCons (fC (.str "lo")) (fCons (fC (.str "m")) (fCons (fC (.str "n")) (fCons (fC (.str "oz")) (fCons (fC (.str "p")) (fCons (fC (.str "swap")) (fCons (fC (.str "zz")) fNil)))))))))) fNil))))
    (sSeq (sOwn 7 fDic0)
    (sSeq (sFor (fRng1 (fCons (fAll lenF (fCons (fVarV 5) fNil)) fNil)) (.one 8) (sSeq (sUnp (.many [9, 10]) (fOpE idxV (fOpE idxV (fVarV 5) (fVarV 8)) (fC (.int 2))))
    (sSeq (sIf (fCp neD (fVarV 9) (fC (.str ""))) (sSet 9 (fOpE idxV (fVarV 6) (fVarV 9))) .nx)
    (sPutD 7 (fAll tupF (fCons (fVar 9) (fCons (fVar 10) fNil))) (fOpE idxV (fVarV 6) (fVarV 8))))))
    (sSeq (sSet 11 (fAll sortedF2 (fCons (fLc (fRng1 (fCons (fAll lenF (fCons (fVarV 5) fNil)) fNil)) (.one 8) [8] (fun _ S => .ok true S) (fAll tupF (fCons (fOpE idxV (fVarV 6) (fVarV 8)) (fCons (fOpE idxV (fOpE idxV (fVarV 5) (fVarV 8)) (fC (.int 0))) (fCons (fOpE idxV (fOpE idxV (fVarV 5) (fVarV 8)) (fC (.int 1))) fNil))))) fNil)))
    (sRet (fAll tupF (fCons (fAll tupF (fCons (fVar 4) (fCons (fVar 11) fNil))) (fCons (fLc (fIt (fAll sortedF2 (fCons (fVarV 7) fNil))) (.one 12) [12] (fun _ S => .ok true S) (fOpE idxV (fVarV 7) (fVarV 12))) fNil))))))))))))
def F__law_inventory : Fm := defF 13 2 B__law_inventory
abbrev s__law_slots : Stmt := topS 33
theorem sc__law_slots : FnScope ["_law_inventory_here", "_law_result", "_law_name", "_law_kind", "_law_slots_here", "_law_i"] ["_law_inventory_here"] (defScope s__law_slots) := ⟨rfl, rfl, rfl, by decide +kernel, rfl, by decide +kernel, by decide +kernel⟩
def B__law_slots : SF := (sSeq (sSet 1 (fLc (fRng1 (fCons (fAll lenF (fCons (fOpE idxV (fVarV 0) (fC (.int 0))) fNil)) fNil)) (.one 5) [5] (fun _ S => .ok true S) (fAll tupF (fCons (fC (.str "")) (fCons (fVar 5) fNil)))))
    (sSeq (sFor (fIt (fOpE idxV (fVarV 0) (fC (.int 1)))) (.many [2, 3, 4]) (sSet 1 (fOp addV (fVarV 1) (fLc (fRng1 (fCons (fAll lenF (fCons (fVarV 4) fNil)) fNil)) (.one 5) [5] (fun _ S => .ok true S) (fAll tupF (fCons (fVar 2) (fCons (fVar 5) fNil)))))))
    (sRet (fVar 1))))
def F__law_slots : Fm := defF 6 1 B__law_slots
abbrev s__law_accepted : Stmt := topS 34
theorem sc__law_accepted : FnScope ["_law_inventory_here", "_law_result", "_law_name", "_law_kind", "_law_slots_here"] ["_law_inventory_here"] (defScope s__law_accepted) := ⟨rfl, rfl, rfl, by decide +kernel, rfl, by decide +kernel, by decide +kernel⟩
def B__law_accepted : SF := (sSeq (sSet 1 (fAll listF2 (fCons (fOpE idxV (fVarV 0) (fC (.int 0))) fNil)))
    (sSeq (sFor (fIt (fOpE idxV (fVarV 0) (fC (.int 1)))) (.many [2, 3, 4]) (sSet 1 (fOp addV (fVarV 1) (fAll listF2 (fCons (fVarV 4) fNil)))))
    (sRet (fVar 1))))
def F__law_accepted : Fm := defF 5 1 B__law_accepted
abbrev s__law_surplus : Stmt := topS 35
theorem sc__law_surplus : FnScope ["_law_inventory_here", "_law_values", "_law_accepted_here", "_law_table", "_law_kind", "_law_name", "_law_slots_here"] ["_law_inventory_here"] (defScope s__law_surplus) := ⟨rfl, rfl, rfl, by decide +kernel, rfl, by decide +kernel, by decide +kernel⟩
def B__law_surplus : SF := (sSeq (sSet 1 (fLc (fIt (fOpE idxV (fVarV 0) (fC (.int 1)))) (.many [5, 4, 6]) [5, 4, 6] (fun _ S => .ok true S) (fVar 4)))
    (sSeq (sSet 2 (fCall F__law_accepted (fCons (fVar 0) fNil)))
    (sSeq (sOwn 3 fDic0)
    (sSeq (sFor (fIt (fU sortSetV (fOp addV (fVarV 1) (fVarV 2)))) (.one 4) (sIf (fCp neD (fCount (fVarV 2) (fCons (fVarV 4) fNil)) (fCount (fVarV 1) (fCons (fVarV 4) fNil))) (sPutD 3 (fVar 4) (fOp subV (fCount (fVarV 2) (fCons (fVarV 4) fNil)) (fCount (fVarV 1) (fCons (fVarV 4) fNil)))) .nx))
    (sFz 3 (sRet (fVar 3)))))))
def F__law_surplus : Fm := defF 7 1 B__law_surplus
abbrev s__law_changed : Stmt := topS 36
theorem sc__law_changed : FnScope ["_law_source_here", "_law_inventory_here", "_law_roots", "_law_items_here", "_law_at", "_law_name", "_law_kind", "_law_slots_here", "_law_variant"] ["_law_source_here", "_law_inventory_here"] (defScope s__law_changed) := ⟨rfl, rfl, rfl, by decide +kernel, rfl, by decide +kernel, by decide +kernel⟩
def B__law_changed : SF := (sSeq (sUnp (.many [2, 3]) (fVar 1))
    (sSeq (sSet 4 (fCall F__law_draw (fCons (fVar 0) (fCons (fAll lenF (fCons (fVarV 3) fNil)) fNil))))
    (sSeq (sUnp (.many [5, 6, 7]) (fOpE idxV (fVarV 3) (fVarV 4)))
    (sSeq (sSet 8 (fCall F__law_draw (fCons (fVar 0) (fCons (fC (.int 4)) fNil))))
    (sSeq (sIf (fAnd (fCp eqD (fVarV 8) (fC (.int 0))) (fCp gtD (fAll lenF (fCons (fVarV 3) fNil)) (fC (.int 1)))) (sRet (fAll tupF (fCons (fVar 2) (fCons (fOp addV (fSl (fVarV 3) fNo (fPart (fVarV 4))) (fSl (fVarV 3) (fPart (fOp addV (fVarV 4) (fC (.int 1)))) fNo)) fNil)))) .nx)
    (sSeq (sIf (fCp eqD (fVarV 8) (fC (.int 1))) (sRet (fAll tupF (fCons (fVar 2) (fCons (fOp addV (fOp addV (fSl (fVarV 3) fNo (fPart (fVarV 4))) (fAll lstF (fCons (fAll tupF (fCons (fVar 5) (fCons (fVar 6) (fCons (fSl (fOp addV (fVarV 7) (fVarV 2)) fNo (fPart (fC (.int 4)))) fNil)))) fNil))) (fSl (fVarV 3) (fPart (fOp addV (fVarV 4) (fC (.int 1)))) fNo)) fNil)))) .nx)
    (sSeq (sIf (fCp eqD (fVarV 8) (fC (.int 2))) (sRet (fAll tupF (fCons (fU revV2 (fVarV 2)) (fCons (fOp addV (fOp addV (fSl (fVarV 3) fNo (fPart (fVarV 4))) (fAll lstF (fCons (fAll tupF (fCons (fVar 5) (fCons (fOpE idxV (fVarV 2) (fC (.int 0))) (fCons (fU revV2 (fVarV 7)) fNil)))) fNil))) (fSl (fVarV 3) (fPart (fOp addV (fVarV 4) (fC (.int 1)))) fNo)) fNil)))) .nx)
    (sRet (fAll tupF (fCons (fSl (fOp addV (fVarV 2) (fVarV 2)) fNo (fPart (fC (.int 4)))) (fCons (fVar 3) fNil)))))))))))
def F__law_changed : Fm := defF 9 2 B__law_changed
abbrev s__law_raised : Stmt := topS 37
theorem sc__law_raised : FnScope ["_law_inventory_here", "_law_place", "_law_caught", "e"] ["_law_inventory_here", "_law_place"] (defScope s__law_raised) := ⟨rfl, rfl, rfl, by decide +kernel, rfl, by decide +kernel, by decide +kernel⟩
def B__law_raised : SF := (sSeq (sSet 2 (fC .none))
    (sSeq (sTry [("InvalidInventory", true), ("UnknownSlot", true)] 3 2 (sDrop (fCall F_slot_kind (fCons (fVar 0) (fCons (fVar 1) fNil)))))
    (sRet (fAll lstF (fCons (fU (isCV [("InvalidInventory", true), ("UnknownSlot", false)]) (fVarV 2)) (fCons (fU (isCV [("InvalidInventory", false), ("UnknownSlot", true)]) (fVarV 2)) (fCons (fU (isCV [("InvalidInventory", true), ("UnknownSlot", true)]) (fVarV 2)) fNil)))))))
def F__law_raised : Fm := defF 4 2 B__law_raised
abbrev s__law_spoil : Stmt := topS 38
theorem sc__law_spoil : FnScope ["_law_first", "_law_second"] ["_law_first", "_law_second"] (defScope s__law_spoil) := ⟨rfl, rfl, rfl, by decide +kernel, rfl, by decide +kernel, by decide +kernel⟩
def B__law_spoil : SF := (sSeq (sDropM (fMut 0 appF (fCons (fC .none) fNil)))
    (sPutD 1 (fC (.str "zz")) (fC (.int 7))))
def F__law_spoil : Fm := defO 2 2 B__law_spoil
abbrev s_law : Stmt := topS 39
theorem sc_law : FnScope ["_law_script", "_law_source_here", "_law_great", "_law_k", "_law_repeat", "_law_inventory_here", "_law_one", "_law_before", "_law_places", "_law_name", "_law_kind", "_law_slots_here", "_law_invalid", "_law_place"] ["_law_script"] (defScope s_law) := ⟨rfl, rfl, rfl, by decide +kernel, rfl, by decide +kernel, by decide +kernel⟩
def B_law : SF := (sSeq (sSet 2 (fOp powV (fC (.int 10)) (fC (.int 60))))
    (sSeq (sFor (fRng1 (fCons (fC (.int 80)) fNil)) (.one 3) (sSet 2 (fOp mulV (fU noBox (fVar 2)) (fOp powV (fC (.int 10)) (fC (.int 60))))))
    (sSeq (sFor (fRng1 (fCons (fC (.int 6)) fNil)) (.one 4) (sSeq (sSet 5 (fOpE idxV (fCall F__law_inventory (fCons (fVar 1) (fCons (fC (.int 24)) fNil))) (fC (.int 0))))
    (sFor (fIt (fAll lstF (fCons (fVar 5) (fCons (fCall F__law_changed (fCons (fVar 1) (fCons (fVar 5) fNil))) fNil)))) (.one 6) (sSeq (sSet 7 (fAll reprF2 (fCons (fVarV 6) fNil)))
    (sSeq (sSet 8 (fCall F__law_slots (fCons (fVar 6) fNil)))
    (sSeq (sDropO F__law_spoil (fCall F_list_slots (fCons (fVar 6) fNil)) (fCall F_slot_surplus (fCons (fVar 6) fNil)))
    (sSeq (sIf (fOr (fCp neD (fAll reprF2 (fCons (fCall F_list_slots (fCons (fVar 6) fNil)) fNil)) (fAll reprF2 (fCons (fVarV 8) fNil))) (fCp neD (fAll reprF2 (fCons (fCall F_slot_surplus (fCons (fVar 6) fNil)) fNil)) (fAll reprF2 (fCons (fCall F__law_surplus (fCons (fVar 6) fNil)) fNil)))) (sRet (fC (.bool false))) .nx)
    (sSeq (sIf (fOr (fCp neD (fLc (fIt (fVar 8)) (.one 13) [13] (fun _ S => .ok true S) (fCall F_slot_kind (fCons (fVar 6) (fCons (fVar 13) fNil)))) (fCall F__law_accepted (fCons (fVar 6) fNil))) (fCp neD (fAll reprF2 (fCons (fVarV 6) fNil)) (fVarV 7))) (sRet (fC (.bool false))) .nx)
    (sSeq (sUnp (.many [9, 10, 11]) (fOpE idxV (fOpE idxV (fVarV 6) (fC (.int 1))) (fC (.int 0))))
    (sSeq (sOwn 12 (fAll lstF (fCons (fAll tupF (fCons (fC (.str "")) (fCons (fAll lenF (fCons (fOpE idxV (fVarV 6) (fC (.int 0))) fNil)) fNil))) (fCons (fAll tupF (fCons (fC (.str "")) (fCons (fU negV (fC (.int 1))) fNil))) (fCons (fAll tupF (fCons (fVar 9) (fCons (fAll lenF (fCons (fVarV 11) fNil)) fNil))) (fCons (fAll tupF (fCons (fVar 9) (fCons (fU negV (fC (.int 1))) fNil))) (fCons (fAll tupF (fCons (fC (.str "nobody")) (fCons (fC (.int 0)) fNil))) (fCons (fAll tupF (fCons (fC (.str "")) (fCons (fC (.bool true)) fNil))) (fCons (fC .none) fNil)))))))))
    (sSeq (sOwn 12 (fOp addV (fVarV 12) (fAll lstF (fCons (fAll lstF (fCons (fC (.str "")) (fCons (fC (.int 0)) fNil))) (fCons (fAll tupF (fCons (fC (.str "")) fNil)) (fCons (fAll tupF (fCons (fC (.str "")) (fCons (fC (.int 0)) (fCons (fC (.int 0)) fNil)))) (fCons (fAll tupF (fCons (fC .none) (fCons (fC (.int 0)) fNil))) (fCons (fAll tupF (fCons (fC (.int 0)) (fCons (fC (.str "")) fNil))) (fCons (fAll tupF (fCons (fC (.str "")) (fCons (fC (.str "0")) fNil))) (fCons (fAll tupF (fCons (fC (.str "")) (fCons (fVar 2) fNil))) fNil))))))))))
    (sSeq (sDropM (fMut 12 appF (fCons (fAll tupF (fCons (fVar 9) (fCons (fOp subV (fC (.int 0)) (fVarV 2)) fNil))) fNil)))
    (sSeq (sOwn 12 (fOp addV (fVarV 12) (fAll lstF (fCons (fAll tupF (fCons (fAll lstF (fCons (fC (.str "a")) fNil)) (fCons (fC (.int 0)) fNil))) (fCons (fAll tupF (fCons (fC (.str "")) (fCons (fAll lstF (fCons (fC (.int 0)) fNil)) fNil))) (fCons (fAll tupF (fCons (fC (.str "")) (fCons (fC (.bool false)) fNil))) (fCons (fAll tupF (fCons (fVar 9) (fCons (fC (.bool false)) fNil))) (fCons (fAll tupF (fCons (fVar 9) (fCons (fC (.bool true)) fNil))) fNil))))))))
    (sFz 12 (sFor (fIt (fVar 12)) (.one 13) (sIf (fOr (fCp neD (fCall F__law_raised (fCons (fVar 6) (fCons (fVar 13) fNil))) (fAll lstF (fCons (fC (.bool false)) (fCons (fC (.bool true)) (fCons (fC (.bool true)) fNil))))) (fCp neD (fCall F__law_raised (fCons (fC .none) (fCons (fVar 13) fNil))) (fAll lstF (fCons (fC (.bool true)) (fCons (fC (.bool false)) (fCons (fC (.bool true)) fNil)))))) (sRet (fC (.bool false))) .nx))))))))))))))))
    (sRet (fC (.bool true))))))
abbrev i_InvalidInventory : Stmt := (clsBody (topS 3)).getD 0 (.Pass ⟨0, 0, 0, 0⟩)
theorem isc_InvalidInventory : FnScope ["self", "reason"] ["self", "reason"] (defScope i_InvalidInventory) := ⟨rfl, rfl, rfl, by decide +kernel, rfl, by decide +kernel, by decide +kernel⟩
structure Ad where
  is_integer : Addr
  fd_is_integer : FuncData
  is_word : Addr
  fd_is_word : FuncData
  are_kinds : Addr
  fd_are_kinds : FuncData
  is_item : Addr
  fd_is_item : FuncData
  all_kinds : Addr
  fd_all_kinds : FuncData
  inventory_error : Addr
  fd_inventory_error : FuncData
  check_inventory : Addr
  fd_check_inventory : FuncData
  slot_kinds : Addr
  fd_slot_kinds : FuncData
  item_kinds : Addr
  fd_item_kinds : FuncData
  surplus : Addr
  fd_surplus : FuncData
  is_slot : Addr
  fd_is_slot : FuncData
  check_slot : Addr
  fd_check_slot : FuncData
  list_slots : Addr
  fd_list_slots : FuncData
  slot_kind : Addr
  fd_slot_kind : FuncData
  slot_surplus : Addr
  fd_slot_surplus : FuncData
  _law_pick : Addr
  fd__law_pick : FuncData
  _law_shuffle : Addr
  fd__law_shuffle : FuncData
  _law_items : Addr
  fd__law_items : FuncData
  _law_inventory : Addr
  fd__law_inventory : FuncData
  _law_slots : Addr
  fd__law_slots : FuncData
  _law_accepted : Addr
  fd__law_accepted : FuncData
  _law_surplus : Addr
  fd__law_surplus : FuncData
  _law_changed : Addr
  fd__law_changed : FuncData
  _law_raised : Addr
  fd__law_raised : FuncData
  _law_spoil : Addr
  fd__law_spoil : FuncData
  law : Addr
  fd_law : FuncData
  _law_source : Addr
  fd__law_source : FuncData
  _law_draw : Addr
  fd__law_draw : FuncData
  InvalidInventory : Addr
  LikeholesError : Addr
  UnknownSlot : Addr
  i_InvalidInventory : Addr
  fi_InvalidInventory : FuncData
structure Nm (K : PySem.W.Frag) (mg : Str → Option Value) (A : Ad) : Prop where
  g_is_integer : mg "is_integer" = some (.ref A.is_integer)
  f_is_integer : Fun K "is_integer" "is_integer" s_is_integer A.is_integer A.fd_is_integer
  z_is_integer : Binds K A.fd_is_integer ["value"] []
  g_is_word : mg "is_word" = some (.ref A.is_word)
  f_is_word : Fun K "is_word" "is_word" s_is_word A.is_word A.fd_is_word
  z_is_word : Binds K A.fd_is_word ["value"] []
  g_are_kinds : mg "are_kinds" = some (.ref A.are_kinds)
  f_are_kinds : Fun K "are_kinds" "are_kinds" s_are_kinds A.are_kinds A.fd_are_kinds
  z_are_kinds : Binds K A.fd_are_kinds ["value", "least", "most"] []
  g_is_item : mg "is_item" = some (.ref A.is_item)
  f_is_item : Fun K "is_item" "is_item" s_is_item A.is_item A.fd_is_item
  z_is_item : Binds K A.fd_is_item ["items", "k"] []
  g_all_kinds : mg "all_kinds" = some (.ref A.all_kinds)
  f_all_kinds : Fun K "all_kinds" "all_kinds" s_all_kinds A.all_kinds A.fd_all_kinds
  z_all_kinds : Binds K A.fd_all_kinds ["inventory"] []
  g_inventory_error : mg "inventory_error" = some (.ref A.inventory_error)
  f_inventory_error : Fun K "inventory_error" "inventory_error" s_inventory_error A.inventory_error A.fd_inventory_error
  z_inventory_error : Binds K A.fd_inventory_error ["value"] []
  g_check_inventory : mg "check_inventory" = some (.ref A.check_inventory)
  f_check_inventory : Fun K "check_inventory" "check_inventory" s_check_inventory A.check_inventory A.fd_check_inventory
  z_check_inventory : Binds K A.fd_check_inventory ["inventory"] []
  g_slot_kinds : mg "slot_kinds" = some (.ref A.slot_kinds)
  f_slot_kinds : Fun K "slot_kinds" "slot_kinds" s_slot_kinds A.slot_kinds A.fd_slot_kinds
  z_slot_kinds : Binds K A.fd_slot_kinds ["inventory"] []
  g_item_kinds : mg "item_kinds" = some (.ref A.item_kinds)
  f_item_kinds : Fun K "item_kinds" "item_kinds" s_item_kinds A.item_kinds A.fd_item_kinds
  z_item_kinds : Binds K A.fd_item_kinds ["inventory"] []
  g_surplus : mg "surplus" = some (.ref A.surplus)
  f_surplus : Fun K "surplus" "surplus" s_surplus A.surplus A.fd_surplus
  z_surplus : Binds K A.fd_surplus ["inventory"] []
  g_is_slot : mg "is_slot" = some (.ref A.is_slot)
  f_is_slot : Fun K "is_slot" "is_slot" s_is_slot A.is_slot A.fd_is_slot
  z_is_slot : Binds K A.fd_is_slot ["inventory", "value"] []
  g_check_slot : mg "check_slot" = some (.ref A.check_slot)
  f_check_slot : Fun K "check_slot" "check_slot" s_check_slot A.check_slot A.fd_check_slot
  z_check_slot : Binds K A.fd_check_slot ["inventory", "slot"] []
  g_list_slots : mg "list_slots" = some (.ref A.list_slots)
  f_list_slots : Fun K "list_slots" "list_slots" s_list_slots A.list_slots A.fd_list_slots
  z_list_slots : Binds K A.fd_list_slots ["inventory"] []
  g_slot_kind : mg "slot_kind" = some (.ref A.slot_kind)
  f_slot_kind : Fun K "slot_kind" "slot_kind" s_slot_kind A.slot_kind A.fd_slot_kind
  z_slot_kind : Binds K A.fd_slot_kind ["inventory", "slot"] []
  g_slot_surplus : mg "slot_surplus" = some (.ref A.slot_surplus)
  f_slot_surplus : Fun K "slot_surplus" "slot_surplus" s_slot_surplus A.slot_surplus A.fd_slot_surplus
  z_slot_surplus : Binds K A.fd_slot_surplus ["inventory"] []
  g__law_pick : mg "_law_pick" = some (.ref A._law_pick)
  f__law_pick : Fun K "_law_pick" "_law_pick" s__law_pick A._law_pick A.fd__law_pick
  z__law_pick : Binds K A.fd__law_pick ["_law_source_here", "_law_values"] []
  g__law_shuffle : mg "_law_shuffle" = some (.ref A._law_shuffle)
  f__law_shuffle : Fun K "_law_shuffle" "_law_shuffle" s__law_shuffle A._law_shuffle A.fd__law_shuffle
  z__law_shuffle : Binds K A.fd__law_shuffle ["_law_source_here", "_law_values"] []
  g__law_items : mg "_law_items" = some (.ref A._law_items)
  f__law_items : Fun K "_law_items" "_law_items" s__law_items A._law_items A.fd__law_items
  z__law_items : Binds K A.fd__law_items ["_law_source_here", "_law_limit", "_law_kinds"] []
  g__law_inventory : mg "_law_inventory" = some (.ref A._law_inventory)
  f__law_inventory : Fun K "_law_inventory" "_law_inventory" s__law_inventory A._law_inventory A.fd__law_inventory
  z__law_inventory : Binds K A.fd__law_inventory ["_law_source_here", "_law_limit"] []
  g__law_slots : mg "_law_slots" = some (.ref A._law_slots)
  f__law_slots : Fun K "_law_slots" "_law_slots" s__law_slots A._law_slots A.fd__law_slots
  z__law_slots : Binds K A.fd__law_slots ["_law_inventory_here"] []
  g__law_accepted : mg "_law_accepted" = some (.ref A._law_accepted)
  f__law_accepted : Fun K "_law_accepted" "_law_accepted" s__law_accepted A._law_accepted A.fd__law_accepted
  z__law_accepted : Binds K A.fd__law_accepted ["_law_inventory_here"] []
  g__law_surplus : mg "_law_surplus" = some (.ref A._law_surplus)
  f__law_surplus : Fun K "_law_surplus" "_law_surplus" s__law_surplus A._law_surplus A.fd__law_surplus
  z__law_surplus : Binds K A.fd__law_surplus ["_law_inventory_here"] []
  g__law_changed : mg "_law_changed" = some (.ref A._law_changed)
  f__law_changed : Fun K "_law_changed" "_law_changed" s__law_changed A._law_changed A.fd__law_changed
  z__law_changed : Binds K A.fd__law_changed ["_law_source_here", "_law_inventory_here"] []
  g__law_raised : mg "_law_raised" = some (.ref A._law_raised)
  f__law_raised : Fun K "_law_raised" "_law_raised" s__law_raised A._law_raised A.fd__law_raised
  z__law_raised : Binds K A.fd__law_raised ["_law_inventory_here", "_law_place"] []
  g__law_spoil : mg "_law_spoil" = some (.ref A._law_spoil)
  f__law_spoil : Fun K "_law_spoil" "_law_spoil" s__law_spoil A._law_spoil A.fd__law_spoil
  z__law_spoil : Binds K A.fd__law_spoil ["_law_first", "_law_second"] []
  g_law : mg "law" = some (.ref A.law)
  f_law : Fun K "law" "law" s_law A.law A.fd_law
  z_law : Binds K A.fd_law ["_law_script"] []
  g__law_source : mg "_law_source" = some (.ref A._law_source)
  f__law_source : Fun K "_law_source" "_law_source" s__law_source A._law_source A.fd__law_source
  z__law_source : Binds K A.fd__law_source ["_law_script"] []
  g__law_draw : mg "_law_draw" = some (.ref A._law_draw)
  f__law_draw : Fun K "_law_draw" "_law_draw" s__law_draw A._law_draw A.fd__law_draw
  z__law_draw : Binds K A.fd__law_draw ["_law_source_here", "_law_limit"] []
  g_InvalidInventory : mg "InvalidInventory" = some (.ref A.InvalidInventory)
  g_LikeholesError : mg "LikeholesError" = some (.ref A.LikeholesError)
  g_UnknownSlot : mg "UnknownSlot" = some (.ref A.UnknownSlot)
  bi_LikeholesError : BaseI K A.LikeholesError
  x_InvalidInventory : ExI K A.InvalidInventory A.i_InvalidInventory
  ii_InvalidInventory : Fun K "__init__" "InvalidInventory.__init__" i_InvalidInventory A.i_InvalidInventory A.fi_InvalidInventory
  zi_InvalidInventory : Binds K A.fi_InvalidInventory ["self", "reason"] []
  no_InvalidInventory : PySem.W.findIn K (.ref A.InvalidInventory) "reason" = some none
  x_UnknownSlot : ExM K A.UnknownSlot [.type "ValueError", .type "Exception", .type "BaseException", .type "object"]
  ea_InvalidInventory : ExA K A.InvalidInventory
  ea_UnknownSlot : ExA K A.UnknownSlot
  te_LikeholesError : TabEx ⟨K, mg⟩ (.ref A.LikeholesError) [("InvalidInventory", true), ("UnknownSlot", true)]
  ti_InvalidInventory : TabIs ⟨K, mg⟩ (.ref A.InvalidInventory) [("InvalidInventory", true), ("UnknownSlot", false)]
  ti_UnknownSlot : TabIs ⟨K, mg⟩ (.ref A.UnknownSlot) [("InvalidInventory", false), ("UnknownSlot", true)]
  ti_ValueError : TabIs ⟨K, mg⟩ (.type "ValueError") [("InvalidInventory", true), ("UnknownSlot", true)]
  c_LETTERS : ∃ t, mg "LETTERS" = some (.str "abcdefghijklmnopqrstuvwxyz" t)
  c_MAX_ITEMS : ∃ t, mg "MAX_ITEMS" = some (.int 24 t)
  c_MAX_KINDS : ∃ t, mg "MAX_KINDS" = some (.int 6 t)
  c_MAX_ROOTS : ∃ t, mg "MAX_ROOTS" = some (.int 4 t)
  c_MAX_SLOTS : ∃ t, mg "MAX_SLOTS" = some (.int 4 t)
  c_MAX_WORD : ∃ t, mg "MAX_WORD" = some (.int 8 t)
  b_ValueError : mg "ValueError" = none
  b_abs : mg "abs" = none
  b_all : mg "all" = none
  b_bool : mg "bool" = none
  b_enumerate : mg "enumerate" = none
  b_int : mg "int" = none
  b_isinstance : mg "isinstance" = none
  b_len : mg "len" = none
  b_list : mg "list" = none
  b_min : mg "min" = none
  b_range : mg "range" = none
  b_repr : mg "repr" = none
  b_set : mg "set" = none
  b_sorted : mg "sorted" = none
  b_str : mg "str" = none
  b_tuple : mg "tuple" = none
section
variable {P : Program} {w : World} {K : PySem.W.Frag} {mg : Str → Option Value} {base : Heap} {A : Ad}
theorem ok__law_source (M : Nm K mg A) : FnOk P w K mg base (L2.CX P w) 1 A._law_source A.fd__law_source ["_law_script"] (spSource K) := by
  refine M.f__law_source.okX sc__law_source (fun vs H Q E h => ?_) (fun cdv Ar outer s H vs Q E hr h => ?_)
  · obtain ⟨a, ns, rfl, _⟩ := h
    rfl
  · obtain ⟨a, ns, rfl, hs, hl, q⟩ := h
    have ps : PassesOwn (model P w) (cxOf (L2.CX P w) P w K mg base ["_law_script", "_law_cells", "_law_k"] "_law_source" (defScope s__law_source) A._law_source cdv Ar outer s H E).A (cxOf (L2.CX P w) P w K mg base ["_law_script", "_law_cells", "_law_k"] "_law_source" (defScope s__law_source) A._law_source cdv Ar outer s H E).env (cxOf (L2.CX P w) P w K mg base ["_law_script", "_law_cells", "_law_k"] "_law_source" (defScope s__law_source) A._law_source cdv Ar outer s H E).xe := passes_of rfl
    refine ⟨_, pss_cons (ps_set (i := 1) sc__law_source.nd rfl (.inl rfl) (pe_slice sl_list (pv 0) po_none (po_some pe_int)))
      (pss_cons (ps_for ps rfl (pi_range1 (by rfl) M.b_range (pa_cons (pe_callB call_len_seq (by rfl) M.b_len PyProof.Rows.Boot.«len» (pa_cons (pv 1) pa_nil)) pa_nil)) (pg_name (i := 2) sc__law_source.nd rfl (.inl rfl))
          (pss_one (ps_if (pt_cmpR op_ge (pe_callB call_abs (by rfl) M.b_abs PyProof.Rows.Boot.«abs» (pa_cons (pe_ix ix_list (pv 1) (pv 2) (by exact fun _ _ => rfl)) pa_nil)) (pe_op op_pow pe_int pe_int) rfl)
            (pss_one (ps_asg (pe_op op_mod (pe_ix ix_list (pv 1) (pv 2) (by exact fun _ _ => rfl)) (pe_op (op_powC (10 ^ 60) 20) (pe_op op_pow pe_int pe_int) pe_int)) (pg_sub (pv 1) (pv 2) set_list))) pss_nil)))
      (pss_cons (ps_if (pt_cmpR (or_eqA (hu_of hr)) (pv 1) (pe_lst pa_nil) rfl) (pss_one (ps_set (i := 1) sc__law_source.nd rfl (.inl rfl) (pe_lst (pa_cons pe_int pa_nil)))) pss_nil)
      (pss_one (ps_ret (pe_lst (pa_cons (pv 1) (pa_cons pe_int pa_nil))))))), ?_⟩
    refine ⟨.ref a, rfl, 63, rfl, a, ns.map V.int, rfl, hs, fun p hp => ?_⟩
    obtain ⟨ms, hm, lm⟩ : ∃ ms : List Int, cutV (ns.map V.int) none (some 63) = ms.map V.int ∧ ms.length ≤ 63 := by
      refine ⟨cutP ns none (some 63), ?_, ?_⟩
      · unfold cutV cutP
        rw [List.length_map, List.map_take, List.map_drop]
      · unfold cutP
        rw [List.length_take, List.length_drop]
        omega
    rw [hm]
    generalize hH1 : upd H p (.lst (ms.map V.int)) = H1
    have C1 : Cells H H1 p ms := by
      rw [← hH1]
      exact ⟨upd_same, hp, fun b u e => by rw [upd_ne (fun z => by rw [z, hp] at e; cases e)]; exact e⟩
    refine ⟨.ref p, rfl, ?_⟩
    refine ⟨p, ms.map V.int, rfl, .inl (SqL.of C1.at_), ?_⟩
    refine ⟨_, rfl, by omega, by rw [List.length_map]; omega, ?_⟩
    -- the loop
    refine ⟨fun i m σ H3 => ∃ ys y2, σ = [some (.ref a), some (.ref p), y2] ∧ ys.length = ms.length ∧ i ≤ ms.length ∧ m = ms.length - i ∧ Cells H H3 p ys, ⟨_, ms, none, rfl, rfl, Nat.zero_le _, rfl, C1⟩, ?_⟩
    rintro i m σ H3 ⟨ys, y2, rfl, ly, hi, rfl, C3⟩
    by_cases hlt : i < ms.length
    · refine .inr ⟨?_, fun σ' H' => ∃ ys y2, σ' = [some (.ref a), some (.ref p), y2] ∧ ys.length = ms.length ∧ Cells H H' p ys, ?_, ?_⟩
      · show i < _
        simp; omega
      · rintro σ' H' ⟨ys, y2, h1, h2, h3⟩
        exact ⟨_, by omega, ys, y2, h1, h2, hlt, rfl, h3⟩
      · rintro x H' ⟨rfl, rfl⟩
        have g := atI_nth (ys := ys) (k := i) (by omega)
        rw [Int.zero_add]
        refine ⟨.ref p, rfl, .int i, rfl, p, _, i, _, rfl, rfl, SqL.of C3.at_, g, _, rfl, 10, 18, rfl, rfl, ⟨by decide, by decide, by decide⟩, _, _, rfl, rfl, _, rfl, ?_⟩
        refine two _ ?_ ?_
        · refine ⟨.ref p, rfl, .int i, rfl, p, _, i, _, rfl, rfl, SqL.of C3.at_, g, 10, 60, rfl, rfl, ⟨by decide, by decide, by decide⟩, _, _, rfl, rfl, ⟨rfl, rfl⟩, _, _, rfl, rfl, (show (0 : Int) < (10 ^ Int.toNat 60) ^ Int.toNat 20 by decide +kernel), ?_⟩
          refine ⟨.ref p, rfl, .int i, rfl, p, _, i, i, rfl, rfl, C3.at_, ?_, ?_⟩
          · unfold ixN
            rw [if_pos (by omega), if_pos (by rw [List.length_map]; omega)]
            rfl
          · rw [setI_map]
            exact ⟨_, _, rfl, by rw [List.length_set]; exact ly, C3.put⟩
        · exact ⟨_, _, rfl, ly, C3⟩
    · refine .inl ⟨?_, ?_⟩
      · show _ ≤ i
        simp; omega
      · refine ⟨.ref p, rfl, by decide, fun e he => ?_⟩
        have pe : p ≠ e := fun z => by have := C3.at_; rw [z, he] at this; cases this
        have keep : Same H3 (upd H3 e (.lst [])) := same_new he
        refine ⟨⟨p + e + 1, p + e + 1, H⟩, .dat (intsD ys), .dat (.list []), (ys.map PyData.int).isEmpty, .inr ⟨p, rfl, ne_l p e, ne_l p e, ys.map V.int, keep _ _ C3.at_, intsD_den ys⟩, .inr ⟨e, rfl, ne_r p e, ne_r p e, [], upd_same, DenL.nil⟩, ?_, _, rfl, ?_⟩
        · exact eqd_nil _
        -- the end, from any list of cells
        have fin : ∀ (cs : List Int) (c : Addr) (H5 : Hp) (σ5 : L2.St), cellsOk cs → (∀ b u, H b = some u → H5 b = some u) → H c = none → H5 c = some (.lst (cs.map V.int)) → σ5[1]? = some (some (.ref c)) → tRet (tLst (tCons (tVar 1) (tCons (tC (V.int 0)) tNil))) { nx := fun x H' => Q V.non H', rt := Q } σ5 H5 := fun cs c H5 σ5 ok old nc at5 s5 => by
          refine ⟨.ref c, s5, (show 2 ≤ sizeLine by decide), fun r hr => ?_⟩
          have cr : c ≠ r := fun z => by rw [z, hr] at at5; cases at5
          refine q _ r c cs ok (fun b u z => ?_) ?_ nc (Ne.symm cr) upd_same (by rw [upd_ne cr]; exact at5)
          · rw [upd_ne (fun y => by rw [y] at z; have := old _ _ z; rw [hr] at this; cases this)]
            exact old b u z
          · cases z : H r with
            | none => rfl
            | some u => have := old _ _ z; rw [hr] at this; cases this
        cases ys with
        | nil =>
          refine ⟨(show 1 ≤ sizeLine by decide), fun c hc => ?_⟩
          refine fin [0] c _ _ ⟨by decide, by decide⟩ (fun b u z => ?_) ?_ upd_same rfl
          · have z3 := keep _ _ (C3.old b u z)
            rw [upd_ne (fun y => by rw [y, hc] at z3; cases z3)]
            exact z3
          · cases z : H c with
            | none => rfl
            | some u => have := keep _ _ (C3.old c u z); rw [hc] at this; cases this
        | cons y ys => exact fin (y :: ys) p _ _ ⟨by simp, by omega⟩ (fun b u z => keep _ _ (C3.old b u z)) C3.new (keep _ _ C3.at_) rfl

theorem ok__law_draw (M : Nm K mg A) : FnOk P w K mg base (L2.CX P w) 1 A._law_draw A.fd__law_draw ["_law_source_here", "_law_limit"] (spD rtF ⟨K, mg⟩ F_draw) := by
  have sh : ∀ {xs : List Vl} {S : Src}, F_draw xs S ≠ .stuck → ∃ n, xs = [.src, .dat (.int n)] ∧ drawOk n S = true := fun {xs S} h => by
    unfold F_draw at h
    split at h
    · rename_i n
      by_cases ok : drawOk n S = true
      · exact ⟨n, rfl, ok⟩
      · rw [if_neg ok] at h; exact absurd rfl h
    · exact absurd rfl h
  refine M.f__law_draw.okX sc__law_draw (fun vs H Q E h => ?_) (fun cdv Ar outer s H vs Q E hr h => ?_)
  · obtain ⟨G, xs, S, _, _, ad, q⟩ := h
    obtain ⟨n, rfl, _⟩ := sh (xs := xs) (S := S) fun z => by rw [z] at q; exact q
    exact ad.length.symm
  · obtain ⟨G, xs, S, h0, hs, ad, q⟩ := h
    obtain ⟨n, rfl, ok⟩ := sh (xs := xs) (S := S) fun z => by rw [z] at q; exact q
    obtain ⟨v1, v2, rfl, d1, d2⟩ := ad.two
    obtain rfl : v1 = .ref G.a0 := d1
    obtain rfl : v2 = .int n := by have : Den K H (.int n) v2 := d2; unfold Den at this; exact this
    have q' : ∀ v H', Ext G H H' → SrcOk G H' (drawS n S).2 → v = .int (drawS n S).1 → Q v H' := by
      unfold F_draw at q
      dsimp only at q
      rw [if_pos ok] at q
      exact fun v H' e1 e2 e3 => q v H' e1 e2 (by subst e3; show Den _ _ _ _; unfold Den; rfl)
    clear q
    unfold drawOk at ok
    simp only [Bool.and_eq_true, decide_eq_true_eq] at ok
    obtain ⟨⟨⟨n0, n1⟩, t0, t1⟩, cn, cl⟩ := ok
    refine ⟨_, pss_cons (ps_asg (pv 0) (pg_lst rfl (pgs_cons (pg_name (i := 2) sc__law_draw.nd rfl (.inl rfl)) (pgs_cons (pg_name (i := 3) sc__law_draw.nd rfl (.inl rfl)) pgs_nil))))
      (pss_cons (ps_set (i := 4) sc__law_draw.nd rfl (.inl rfl) (pe_op op_mod (pv 3) (pe_callB call_len_seq (by rfl) M.b_len PyProof.Rows.Boot.«len» (pa_cons (pv 2) pa_nil))))
      (pss_cons (ps_set (i := 5) sc__law_draw.nd rfl (.inl rfl) (pe_ix ix_list (pv 2) (pv 4) (by exact fun _ _ => rfl)))
      (pss_cons (ps_asg (pe_add (pv 3) pe_int) (pg_sub (pv 0) pe_int set_list))
      (pss_cons (ps_if (pt_cmpR op_ge (pv 5) (pe_op op_pow pe_int pe_int) rfl) (pss_cons (ps_asg (pe_op op_fdivW (pv 5) (pv 1)) (pg_sub (pv 2) (pv 4) set_list)) (pss_one (ps_ret (pe_op op_mod (pv 5) (pv 1))))) pss_nil)
      (pss_cons (ps_set (i := 6) sc__law_draw.nd rfl (.inl rfl) (pe_op op_mod (pe_add (pe_add (pe_op op_mul (pe_op op_mod (pv 5) pe_int) pe_int) (pe_op op_mul (pe_op op_mul (pv 3) (pv 3)) pe_int)) pe_int) pe_int))
      (pss_cons (ps_set (i := 6) sc__law_draw.nd rfl (.inl rfl) (pe_op op_mod (pe_op op_mul (pv 6) (pv 6)) pe_int))
      (pss_cons (ps_set (i := 6) sc__law_draw.nd rfl (.inl rfl) (pe_op op_mod (pe_op op_mul (pv 6) (pv 6)) pe_int))
      (pss_cons (ps_if (pt_cmpR op_gt (pv 1) (pe_op op_pow pe_int pe_int) rfl) (pss_cons (ps_set (i := 7) sc__law_draw.nd rfl (.inl rfl) (pe_op op_mod (pe_add (pe_add (pe_op op_mul (pv 6) pe_int) (pe_op op_mul (pv 3) pe_int)) pe_int) pe_int))
          (pss_one (ps_set (i := 6) sc__law_draw.nd rfl (.inl rfl) (pe_op op_mul (pv 6) (pe_add (pe_op op_mul (pe_op op_mul (pv 7) (pv 7)) (pv 7)) pe_int))))) pss_nil)
      (pss_one (ps_ret (pe_op op_mod (pv 6) (pv 1)))))))))))), ?_⟩
    have hs' := hs
    obtain ⟨ne, ha, hc⟩ := hs
    -- where the draw is taken
    have lp : (0 : Int) < S.cells.length := by
      have : 0 < S.cells.length := List.length_pos_iff.mpr cn
      omega
    generalize hk : (S.turn % S.cells.length).toNat = k
    have at0 : S.turn % (S.cells.length : Int) = (k : Int) := by rw [← hk]; exact (Int.toNat_of_nonneg (Int.emod_nonneg _ (by omega))).symm
    have kl : k < S.cells.length := by have := Int.emod_lt_of_pos S.turn lp; omega
    have now : S.now = S.cells[k] := by
      unfold Src.now
      rw [hk, List.getD_eq_getElem?_getD, List.getElem?_eq_getElem kl]
      rfl
    refine ⟨.ref G.a0, rfl, G.a0, _, rfl, SqL.of ha, rfl, _, _, rfl, _, _, rfl, rfl, ?_⟩
    refine ⟨.int S.turn, rfl, .ref G.c0, rfl, G.c0, _, rfl, .inl (SqL.of hc), _, _, rfl, rfl, by rw [List.length_map]; exact lp, ?_⟩
    have atH : atI (S.cells.map V.int) (S.turn % ((S.cells.map V.int).length : Int)) = some (.int S.now) := by
      rw [List.length_map, at0, now]
      exact atI_nth kl
    have ixH : ixN (S.cells.map V.int).length (S.turn % ((S.cells.map V.int).length : Int)) = some k := by
      rw [List.length_map, at0]
      unfold ixN
      rw [if_pos (by omega), if_pos (by omega)]
      rfl
    refine ⟨.ref G.c0, rfl, .int _, rfl, G.c0, _, _, _, rfl, rfl, SqL.of hc, atH, ?_⟩
    -- the turn goes on
    refine ⟨.int S.turn, rfl, S.turn, 1, rfl, rfl, .ref G.a0, rfl, ?_⟩
    refine ⟨G.a0, _, 1, 1, rfl, rfl, ha, rfl, ?_⟩
    generalize hH1 : upd H G.a0 (.lst ([V.ref G.c0, .int S.turn].set 1 (.int (S.turn + 1)))) = H1
    have e1 : Ext G H H1 := fun b o z m1 m2 => by rw [← hH1, upd_ne m1]; exact z
    have s1 : SrcOk G H1 ⟨S.cells, S.turn + 1⟩ := by
      rw [← hH1]
      exact ⟨ne, upd_same, by rw [upd_ne (Ne.symm ne)]; exact hc⟩
    refine ⟨.int S.now, rfl, 10, 18, rfl, rfl, ⟨by decide, by decide, by decide⟩, _, _, rfl, rfl, _, rfl, ?_⟩
    refine two' _ (fun big => ?_) fun small => ?_
    · have big : 10 ^ 18 ≤ S.now := of_decide_eq_true big
      have wd : CDivW S.now n := wide_div n0 (b := 1000) (by omega) (by decide) (by decide)
      refine ⟨.int S.now, rfl, .int n, rfl, _, _, rfl, rfl, wd, .ref G.c0, rfl, .int _, rfl, G.c0, _, _, k, rfl, rfl, s1.2.2, ixH, ?_⟩
      rw [setI_map]
      refine ⟨.int S.now, rfl, .int n, rfl, _, _, rfl, rfl, n0, ?_⟩
      have ed : drawS n S = (S.now % n, ⟨S.cells.set k (S.now / n), S.turn + 1⟩) := by
        unfold drawS
        rw [if_pos big, hk]
      refine q' _ _ (fun b o z m1 m2 => ?_) ?_ (by rw [ed])
      · rw [upd_ne m2]
        exact e1 b o z m1 m2
      · rw [ed]
        exact ⟨ne, by rw [upd_ne ne]; exact s1.2.1, upd_same⟩
    · have small : ¬ 10 ^ 18 ≤ S.now := of_decide_eq_false small
      have ed : drawS n S = (drawV S.now S.turn n, ⟨S.cells, S.turn + 1⟩) := by
        unfold drawS
        rw [if_neg small]
      rw [ed] at q'
      have p29 : (0 : Int) < 2147483629 := by decide
      have p47 : (0 : Int) < 2147483647 := by decide
      have p87 : (0 : Int) < 2147483587 := by decide
      refine ⟨.int S.now, rfl, _, _, rfl, rfl, p29, _, _, rfl, rfl, cm_l (dr_m0 _).1 (by have := (dr_m0 S.now).2; omega), .int S.turn, rfl, .int S.turn, rfl, _, _, rfl, rfl, cm_l t0 t1, _, _, rfl, rfl, cm_r (by decide) (by decide), _, _, rfl, rfl, _, _, rfl, rfl, _, _, rfl, rfl, p47, ?_⟩
      have b0 : 0 ≤ dr0 S.now S.turn ∧ dr0 S.now S.turn < 2147483648 := dr_m1 _
      refine ⟨.int (dr0 S.now S.turn), rfl, .int (dr0 S.now S.turn), rfl, _, _, rfl, rfl, cm_l b0.1 (by omega), _, _, rfl, rfl, p29, ?_⟩
      have b1 : 0 ≤ dr1 (dr0 S.now S.turn) ∧ dr1 (dr0 S.now S.turn) < 2147483648 := dr_m0 _
      refine ⟨.int (dr1 (dr0 S.now S.turn)), rfl, .int (dr1 (dr0 S.now S.turn)), rfl, _, _, rfl, rfl, cm_l b1.1 (by omega), _, _, rfl, rfl, p87, ?_⟩
      have b2 : 0 ≤ dr2 (dr1 (dr0 S.now S.turn)) ∧ dr2 (dr1 (dr0 S.now S.turn)) < 2147483648 := dr_m2 _
      refine ⟨.int n, rfl, 10, 9, rfl, rfl, ⟨by decide, by decide, by decide⟩, _, _, rfl, rfl, _, rfl, ?_⟩
      have fin : ∀ m : Int, drawV S.now S.turn n = m % n → Q (.int (m % n)) H1 := fun m e => q' _ _ e1 s1 (by rw [e])
      refine two' _ (fun far => ?_) fun near => ?_
      · have far : 10 ^ 9 < n := of_decide_eq_true far
        refine ⟨.int (dr2 (dr1 (dr0 S.now S.turn))), rfl, _, _, rfl, rfl, cm_l b2.1 (by omega), .int S.turn, rfl, _, _, rfl, rfl, cm_r (by decide) (by decide), _, _, rfl, rfl, _, _, rfl, rfl, _, _, rfl, rfl, p29, ?_⟩
        have b3 : 0 ≤ dr3 (dr2 (dr1 (dr0 S.now S.turn))) S.turn ∧ dr3 (dr2 (dr1 (dr0 S.now S.turn))) S.turn < 2147483648 := dr_m0 _
        refine ⟨.int (dr2 (dr1 (dr0 S.now S.turn))), rfl, .int (dr3 (dr2 (dr1 (dr0 S.now S.turn))) S.turn), rfl, .int (dr3 (dr2 (dr1 (dr0 S.now S.turn))) S.turn), rfl, _, _, rfl, rfl, cm_l b3.1 (by omega), .int (dr3 (dr2 (dr1 (dr0 S.now S.turn))) S.turn), rfl, _, _, rfl, rfl, cm_r b3.1 (by omega), _, _, rfl, rfl, _, _, rfl, rfl, cm_l b2.1 (by omega), ?_⟩
        refine ⟨.int _, rfl, .int n, rfl, _, _, rfl, rfl, n0, fin _ ?_⟩
        unfold drawV
        rw [if_pos far]
      · have near : ¬ 10 ^ 9 < n := of_decide_eq_false near
        refine ⟨.int (dr2 (dr1 (dr0 S.now S.turn))), rfl, .int n, rfl, _, _, rfl, rfl, n0, fin _ ?_⟩
        unfold drawV
        rw [if_neg near]

theorem ok_init_InvalidInventory (M : Nm K mg A) : FnOk P w K mg base CX0 1 A.i_InvalidInventory A.fi_InvalidInventory ["self", "reason"] (spInit A.InvalidInventory "reason") := by
  refine M.ii_InvalidInventory.ok isc_InvalidInventory (fun vs H Q E h => ?_) (fun cdv Ar outer s H vs Q E hr h => ?_)
  · obtain ⟨a, y, rfl, _⟩ := h
    rfl
  · obtain ⟨a, y, rfl, ea, q⟩ := h
    refine ⟨_, pss_cons (ps_expr (pe_baseInit M.bi_LikeholesError M.g_LikeholesError (pa_cons (pv 0) (pa_cons pe_str pa_nil)))) (pss_one (ps_ost (pv 0) (pv 1))), ?_⟩
    exact ⟨_, rfl, a, A.InvalidInventory, _, rfl, by simp, M.x_InvalidInventory.cls, ea, y, rfl, _, rfl, a, A.InvalidInventory, rfl, M.x_InvalidInventory.cls, M.no_InvalidInventory, .inl ⟨ea, fun dx n ne => q dx n ne⟩⟩
theorem ok_is_integer (M : Nm K mg A) : FnOk P w K mg base (L2.CX P w) 1 A.is_integer A.fd_is_integer ["value"] (spD rtF ⟨K, mg⟩ F_is_integer) :=
  dDef (k := 0) M.f_is_integer sc_is_integer fun cdv Ar outer s H E hr G W tk ps => (dsOne (dRet (dAndV (do_v (dIsi (dVarV 0) M.b_isinstance M.b_int rfl)) (dOne (do_e (dNotV (do_v (dIsi (dVarV 0) M.b_isinstance M.b_bool rfl))))))))
theorem ok_is_word (M : Nm K mg A) : FnOk P w K mg base (L2.CX P w) 1 A.is_word A.fd_is_word ["value"] (spD rtF ⟨K, mg⟩ F_is_word) :=
  dDef (k := 0) M.f_is_word sc_is_word fun cdv Ar outer s H E hr G W tk ps => (dsOne (dRet (dAndV (do_v (dIsi (dVarV 0) M.b_isinstance M.b_str rfl)) (dAndV (do_v (dChV (or_le (hu_of hr)) (or_le (hu_of hr)) (do_v dInt) (do_v (dCallB cl_len M.b_len PyProof.Rows.Boot.«len» (davCons (dVarV 0) davNil))) (do_v (dGlobI M.c_MAX_WORD)))) (dOne (do_e (dCallB (cl_all rfl) M.b_all PyProof.Rows.Boot.«all» (davCons (do_v (dLc (own := [("letter", 1)]) rfl sc_is_word.nd (blkOk_by (N := ["value", "letter"]) (sc := defScope s_is_word) (by decide +kernel)) (diAny (dVar 0)).e
      (fun _ _ _ _ _ => (dgOne (by exact sc_is_word.nd))) (fun _ _ _ _ _ => dtsNil) (fun _ _ _ _ _ => (do_e (dCmp (or_in (hu_of hr)) (dVarV 1) (do_v (dGlobS M.c_LETTERS))))) (by decide))) davNil))))))))
theorem ok_are_kinds (M : Nm K mg A) : FnOk P w K mg base (L2.CX P w) 2 A.are_kinds A.fd_are_kinds ["value", "least", "most"] (spD rtF ⟨K, mg⟩ F_are_kinds) :=
  dDef (k := 1) M.f_are_kinds sc_are_kinds fun cdv Ar outer s H E hr G W tk ps => (dsOne (dRet (dAndV (do_v (dIsi (dVarV 0) M.b_isinstance M.b_tuple rfl)) (dAndV (do_v (dChV (or_le (hu_of hr)) (or_le (hu_of hr)) (dVarV 1) (do_v (dCallB cl_len M.b_len PyProof.Rows.Boot.«len» (davCons (dVarV 0) davNil))) (dVarV 2))) (dOne (do_e (dCallB (cl_all rfl) M.b_all PyProof.Rows.Boot.«all» (davCons (do_v (dLc (own := [("entry", 3)]) rfl sc_are_kinds.nd (blkOk_by (N := ["value", "least", "most", "entry"]) (sc := defScope s_are_kinds) (by decide +kernel)) (diAny (dVar 0)).e
      (fun _ _ _ _ _ => (dgOne (by exact sc_are_kinds.nd))) (fun _ _ _ _ _ => dtsNil) (fun _ _ _ _ _ => (dCall (ok_is_word M) (hr.mono (by decide)) M.g_is_word M.f_is_word.kp M.z_is_word takes0 (dasCons (dVar 3) dasNil))) (by decide))) davNil))))))))
theorem ok_is_item (M : Nm K mg A) : FnOk P w K mg base (L2.CX P w) 3 A.is_item A.fd_is_item ["items", "k"] (spD rtF ⟨K, mg⟩ F_is_item) :=
  dDef (k := 2) M.f_is_item sc_is_item fun cdv Ar outer s H E hr G W tk ps => (dsCons (dSet (dIx (hu_of hr) (dVarV 0) (dVarV 1)) sc_is_item.nd)
    (dsCons (dsIf (dW (dOr (dNot (dTval (do_v (dIsi (dVarV 2) M.b_isinstance M.b_tuple rfl)))) (dOr (dCmpT (or_ne (hu_of hr)) (do_v (dCallB cl_len M.b_len PyProof.Rows.Boot.«len» (davCons (dVarV 2) davNil))) (do_v dInt)) (dOr (dNot (dTval (de_v (dCall (ok_is_word M) (hr.mono (by decide)) M.g_is_word M.f_is_word.kp M.z_is_word tk (dasCons (dIx (hu_of hr) (dVarV 2) (do_v dInt)) dasNil))))) (dOr1 (dNot (dTval (de_v (dCall (ok_is_word M) (hr.mono (by decide)) M.g_is_word M.f_is_word.kp M.z_is_word tk (dasCons (dIx (hu_of hr) (dVarV 2) (do_v dInt)) dasNil)))))))))) (dsOne (dRet (do_e dBl))) dsNil)
    (dsCons (dsIf (dNot (dTval (de_v (dCall (ok_are_kinds M) (hr.mono (by decide)) M.g_are_kinds M.f_are_kinds.kp M.z_are_kinds tk (dasCons (dIx (hu_of hr) (dVarV 2) (do_v dInt)) (dasCons (do_e dInt) (dasCons (do_e (dGlobI M.c_MAX_SLOTS)) dasNil))))))) (dsOne (dRet (do_e dBl))) dsNil)
    (dsOne (dRet (dOrV (do_v (dCmp (or_eq (hu_of hr)) (dVarV 1) (do_v dInt))) (dOne (do_e (dCmp (or_lt (hu_of hr)) (de_v (dIx (hu_of hr) (de_v (dIx (hu_of hr) (dVarV 0) (do_v (dOp or_sub (dVarV 1) (do_v dInt))))) (do_v dInt))) (de_v (dIx (hu_of hr) (dVarV 2) (do_v dInt))))))))))))
theorem ok_all_kinds (M : Nm K mg A) : FnOk P w K mg base (L2.CX P w) 1 A.all_kinds A.fd_all_kinds ["inventory"] (spD rtF ⟨K, mg⟩ F_all_kinds) :=
  dDef (k := 0) M.f_all_kinds sc_all_kinds fun cdv Ar outer s H E hr G W tk ps => (dsCons (dSet (do_e (dCallT (cl_list2 rfl) M.b_list PyProof.Rows.Boot.«list» (davCons (de_v (dIx (hu_of hr) (dVarV 0) (do_v dInt))) davNil))) sc_all_kinds.nd)
    (dsCons (dFor ps rfl (diAny (dIx (hu_of hr) (dVarV 0) (do_v dInt))) (dgMany rfl (dgsCons (by exact sc_all_kinds.nd) (dgsCons (by exact sc_all_kinds.nd) (dgsCons (by exact sc_all_kinds.nd) dgsNil)))) (dsOne (dSet (do_e (dOp or_add (do_v (dOp or_add (dVarV 1) (do_v (dLst (dasCons (dVar 3) dasNil))))) (do_v (dCallT (cl_list2 rfl) M.b_list PyProof.Rows.Boot.«list» (davCons (dVarV 4) davNil))))) sc_all_kinds.nd)))
    (dsOne (dRet (do_e (dSortSet (dVarV 1) rfl (hu_of hr) M.b_sorted M.b_set))))))
theorem ok_inventory_error (M : Nm K mg A) : FnOk P w K mg base (L2.CX P w) 4 A.inventory_error A.fd_inventory_error ["value"] (spD rtF ⟨K, mg⟩ F_inventory_error) :=
  dDef (k := 3) M.f_inventory_error sc_inventory_error fun cdv Ar outer s H E hr G W tk ps => (dsCons (dsIf (dW (dOr (dNot (dTval (do_v (dIsi (dVarV 0) M.b_isinstance M.b_tuple rfl)))) (dOr1 (dCmpT (or_ne (hu_of hr)) (do_v (dCallB cl_len M.b_len PyProof.Rows.Boot.«len» (davCons (dVarV 0) davNil))) (do_v dInt))))) (dsOne (dRet (do_e (dTup (dasCons (do_e dStr) dasNil))))) dsNil)
    (dsCons (dUnp (dVar 0) (dgMany rfl (dgsCons (by exact sc_inventory_error.nd) (dgsCons (by exact sc_inventory_error.nd) dgsNil))))
    (dsCons (dsIf (dNot (dTval (de_v (dCall (ok_are_kinds M) (hr.mono (by decide)) M.g_are_kinds M.f_are_kinds.kp M.z_are_kinds tk (dasCons (dVar 1) (dasCons (do_e dInt) (dasCons (do_e (dGlobI M.c_MAX_ROOTS)) dasNil))))))) (dsOne (dRet (do_e (dTup (dasCons (do_e dStr) dasNil))))) dsNil)
    (dsCons (dsIf (dW (dOr (dNot (dTval (do_v (dIsi (dVarV 2) M.b_isinstance M.b_list rfl)))) (dOr1 (dNot (dCh (or_le (hu_of hr)) (or_le (hu_of hr)) (do_v dInt) (do_v (dCallB cl_len M.b_len PyProof.Rows.Boot.«len» (davCons (dVarV 2) davNil))) (do_v (dGlobI M.c_MAX_ITEMS))))))) (dsOne (dRet (do_e (dTup (dasCons (do_e dStr) dasNil))))) dsNil)
    (dsCons (dFor ps rfl (diRng1 (davCons (do_v (dCallB cl_len M.b_len PyProof.Rows.Boot.«len» (davCons (dVarV 2) davNil))) davNil) M.b_range) (dgOne (by exact sc_inventory_error.nd)) (dsOne (dsIf (dNot (dTval (de_v (dCall (ok_is_item M) (hr.mono (by decide)) M.g_is_item M.f_is_item.kp M.z_is_item tk (dasCons (dVar 2) (dasCons (dVar 3) dasNil)))))) (dsOne (dRet (do_e (dTup (dasCons (do_e dStr) (dasCons (dVar 3) dasNil)))))) dsNil)))
    (dsOne (dRet (dIf (dCmpT (or_gt (hu_of hr)) (do_v (dCallB cl_len M.b_len PyProof.Rows.Boot.«len» (davCons (de_v (dCall (ok_all_kinds M) (hr.mono (by decide)) M.g_all_kinds M.f_all_kinds.kp M.z_all_kinds tk (dasCons (dVar 0) dasNil))) davNil))) (do_v (dGlobI M.c_MAX_KINDS))) (do_e (dTup (dasCons (do_e dStr) dasNil))) (do_e dNon)))))))))
theorem ok_check_inventory (M : Nm K mg A) : FnOk P w K mg base (L2.CX P w) 5 A.check_inventory A.fd_check_inventory ["inventory"] (spD rtF ⟨K, mg⟩ F_check_inventory) :=
  dDefN (k := 4) M.f_check_inventory sc_check_inventory fun cdv Ar outer s H E hr G W tk ps => (dsCons (dSet (dCall (ok_inventory_error M) (hr.mono (by decide)) M.g_inventory_error M.f_inventory_error.kp M.z_inventory_error tk (dasCons (dVar 0) dasNil)) sc_check_inventory.nd)
    (dsOne (dsIf (dCmpT or_isn (dVarV 1) (do_v dNon)) (dsOne (dRaiseR M.x_InvalidInventory (ok_init_InvalidInventory M) M.zi_InvalidInventory M.g_InvalidInventory (hr.mono (by decide)) rfl tk (dVar 1))) dsNil)))
theorem ok_slot_kinds (M : Nm K mg A) : FnOk P w K mg base (L2.CX P w) 1 A.slot_kinds A.fd_slot_kinds ["inventory"] (spD rtF ⟨K, mg⟩ F_slot_kinds) :=
  dDef (k := 0) M.f_slot_kinds sc_slot_kinds fun cdv Ar outer s H E hr G W tk ps => (dsCons (dUnp (dVar 0) (dgMany rfl (dgsCons (by exact sc_slot_kinds.nd) (dgsCons (by exact sc_slot_kinds.nd) dgsNil))))
    (dsCons (dSetDc (kd := true) (own := [("i", 7), ("kind", 5)]) rfl (hu_of hr) sc_slot_kinds.nd (blkOk_by (N := ["inventory", "roots", "items", "kinds", "name", "kind", "slots", "i", "accepted"]) (sc := defScope s_slot_kinds) (by decide +kernel)) (diEnum (dasCons (dVar 1) dasNil) M.b_enumerate).e
      (fun _ _ _ _ _ => (dgMany rfl (dgsCons (by exact sc_slot_kinds.nd) (dgsCons (by exact sc_slot_kinds.nd) dgsNil)))) (fun _ _ _ _ _ => dtsNil) (fun _ _ _ _ _ => (do_e (dTup (dasCons (do_e dStr) (dasCons (dVar 7) dasNil))))) (fun _ _ _ _ _ => (dVar 5)) (by decide))
    (dsCons (dFor ps rfl (diAny (dVar 2)) (dgMany rfl (dgsCons (by exact sc_slot_kinds.nd) (dgsCons (by exact sc_slot_kinds.nd) (dgsCons (by exact sc_slot_kinds.nd) dgsNil)))) (dsOne (dFor ps rfl (diEnum (dasCons (dVar 6) dasNil) M.b_enumerate) (dgMany rfl (dgsCons (by exact sc_slot_kinds.nd) (dgsCons (by exact sc_slot_kinds.nd) dgsNil))) (dsOne (dPutD 3 (hu_of hr) (dVar 8) (do_e (dTup (dasCons (dVar 4) (dasCons (dVar 7) dasNil)))))))))
    (dsOne (dFz 3 (dRet (dVar 3)))))))
theorem ok_item_kinds (M : Nm K mg A) : FnOk P w K mg base (L2.CX P w) 1 A.item_kinds A.fd_item_kinds ["inventory"] (spD rtF ⟨K, mg⟩ F_item_kinds) :=
  dDef (k := 0) M.f_item_kinds sc_item_kinds fun cdv Ar outer s H E hr G W tk ps => (dsOne (dRet (do_e (dDc (kd := false) (own := [("name", 1), ("kind", 2), ("slots", 3)]) rfl (hu_of hr) sc_item_kinds.nd (blkOk_by (N := ["inventory", "name", "kind", "slots"]) (sc := defScope s_item_kinds) (by decide +kernel)) (diAny (dIx (hu_of hr) (dVarV 0) (do_v dInt))).e
      (fun _ _ _ _ _ => (dgMany rfl (dgsCons (by exact sc_item_kinds.nd) (dgsCons (by exact sc_item_kinds.nd) (dgsCons (by exact sc_item_kinds.nd) dgsNil))))) (fun _ _ _ _ _ => dtsNil) (fun _ _ _ _ _ => (dVar 1)) (fun _ _ _ _ _ => (dVar 2)) (by decide)))))
theorem ok_surplus (M : Nm K mg A) : FnOk P w K mg base (L2.CX P w) 2 A.surplus A.fd_surplus ["inventory"] (spD rtN ⟨K, mg⟩ F_surplus) :=
  dDef (k := 1) M.f_surplus sc_surplus fun cdv Ar outer s H E hr G W tk ps => (dsCons (dSet (do_e (dListVals (de_v (dCall (ok_slot_kinds M) (hr.mono (by decide)) M.g_slot_kinds M.f_slot_kinds.kp M.z_slot_kinds tk (dasCons (dVar 0) dasNil))) rfl M.b_list)) sc_surplus.nd)
    (dsCons (dSet (do_e (dListVals (de_v (dCall (ok_item_kinds M) (hr.mono (by decide)) M.g_item_kinds M.f_item_kinds.kp M.z_item_kinds tk (dasCons (dVar 0) dasNil))) rfl M.b_list)) sc_surplus.nd)
    (dsCons (dSetB boxDc (dSetDc (kd := false) (own := [("kind", 4)]) rfl (hu_of hr) sc_surplus.nd (blkOk_by (N := ["inventory", "accepted", "present", "differences", "kind", "difference"]) (sc := defScope s_surplus) (by decide +kernel)) (diAny (dCall (ok_all_kinds M) (hr.mono (by decide)) M.g_all_kinds M.f_all_kinds.kp M.z_all_kinds tk (dasCons (dVar 0) dasNil))).e
      (fun _ _ _ _ _ => (dgOne (by exact sc_surplus.nd))) (fun _ _ _ _ _ => dtsNil) (fun _ _ _ _ _ => (dVar 4)) (fun _ _ _ _ _ => (do_e (dOp or_sub (do_v (dCount (hu_of hr) (dVarV 1) (davCons (dVarV 4) davNil))) (do_v (dCount (hu_of hr) (dVarV 2) (davCons (dVarV 4) davNil)))))) (by decide)))
    (dsOne (dRetO (dDc (kd := false) (own := [("kind", 4), ("difference", 5)]) rfl (hu_of hr) sc_surplus.nd (blkOk_by (N := ["inventory", "accepted", "present", "differences", "kind", "difference"]) (sc := defScope s_surplus) (by decide +kernel)) (diItems (dVar 3)).e
      (fun _ _ _ _ _ => (dgMany rfl (dgsCons (by exact sc_surplus.nd) (dgsCons (by exact sc_surplus.nd) dgsNil)))) (fun _ _ _ _ _ => (dtsOne (dCmpT (or_ne (hu_of hr)) (dVarV 5) (do_v dInt)))) (fun _ _ _ _ _ => (dVar 4)) (fun _ _ _ _ _ => (dVar 5)) (by decide)))))))
theorem ok_is_slot (M : Nm K mg A) : FnOk P w K mg base (L2.CX P w) 2 A.is_slot A.fd_is_slot ["inventory", "value"] (spD rtF ⟨K, mg⟩ F_is_slot) :=
  dDef (k := 1) M.f_is_slot sc_is_slot fun cdv Ar outer s H E hr G W tk ps => (dsCons (dsIf (dW (dOr (dNot (dTval (do_v (dIsi (dVarV 1) M.b_isinstance M.b_tuple rfl)))) (dOr (dCmpT (or_ne (hu_of hr)) (do_v (dCallB cl_len M.b_len PyProof.Rows.Boot.«len» (davCons (dVarV 1) davNil))) (do_v dInt)) (dOr (dNot (dTval (do_v (dIsi (de_v (dIx (hu_of hr) (dVarV 1) (do_v dInt))) M.b_isinstance M.b_str rfl)))) (dOr1 (dNot (dTval (de_v (dCall (ok_is_integer M) (hr.mono (by decide)) M.g_is_integer M.f_is_integer.kp M.z_is_integer tk (dasCons (dIx (hu_of hr) (dVarV 1) (do_v dInt)) dasNil)))))))))) (dsOne (dRet (do_e dBl))) dsNil)
    (dsOne (dRet (do_e (dCmp (or_in (hu_of hr)) (dVarV 1) (de_v (dCall (ok_slot_kinds M) (hr.mono (by decide)) M.g_slot_kinds M.f_slot_kinds.kp M.z_slot_kinds tk (dasCons (dVar 0) dasNil))))))))
theorem ok_check_slot (M : Nm K mg A) : FnOk P w K mg base (L2.CX P w) 3 A.check_slot A.fd_check_slot ["inventory", "slot"] (spD rtF ⟨K, mg⟩ F_check_slot) :=
  dDefN (k := 2) M.f_check_slot sc_check_slot fun cdv Ar outer s H E hr G W tk ps => (dsOne (dsIf (dNot (dTval (de_v (dCall (ok_is_slot M) (hr.mono (by decide)) M.g_is_slot M.f_is_slot.kp M.z_is_slot tk (dasCons (dVar 0) (dasCons (dVar 1) dasNil)))))) (dsOne (dRaiseM PySem.F.excBase_ValueError M.x_UnknownSlot M.g_UnknownSlot rfl tk)) dsNil))
theorem ok_list_slots (M : Nm K mg A) : FnOk P w K mg base (L2.CX P w) 6 A.list_slots A.fd_list_slots ["inventory"] (spD rtN ⟨K, mg⟩ F_list_slots) :=
  dDef (k := 5) M.f_list_slots sc_list_slots fun cdv Ar outer s H E hr G W tk ps => (dsCons (dDrop (de_v (dCall (ok_check_inventory M) (hr.mono (by decide)) M.g_check_inventory M.f_check_inventory.kp M.z_check_inventory tk (dasCons (dVar 0) dasNil))))
    (dsOne (dRetO (dCallT (cl_list2 rfl) M.b_list PyProof.Rows.Boot.«list» (davCons (de_v (dCall (ok_slot_kinds M) (hr.mono (by decide)) M.g_slot_kinds M.f_slot_kinds.kp M.z_slot_kinds tk (dasCons (dVar 0) dasNil))) davNil)))))
theorem ok_slot_kind (M : Nm K mg A) : FnOk P w K mg base (L2.CX P w) 6 A.slot_kind A.fd_slot_kind ["inventory", "slot"] (spD rtF ⟨K, mg⟩ F_slot_kind) :=
  dDef (k := 5) M.f_slot_kind sc_slot_kind fun cdv Ar outer s H E hr G W tk ps => (dsCons (dDrop (de_v (dCall (ok_check_inventory M) (hr.mono (by decide)) M.g_check_inventory M.f_check_inventory.kp M.z_check_inventory tk (dasCons (dVar 0) dasNil))))
    (dsCons (dDrop (de_v (dCall (ok_check_slot M) (hr.mono (by decide)) M.g_check_slot M.f_check_slot.kp M.z_check_slot tk (dasCons (dVar 0) (dasCons (dVar 1) dasNil)))))
    (dsOne (dRet (dIx (hu_of hr) (de_v (dCall (ok_slot_kinds M) (hr.mono (by decide)) M.g_slot_kinds M.f_slot_kinds.kp M.z_slot_kinds tk (dasCons (dVar 0) dasNil))) (dVarV 1))))))
theorem ok_slot_surplus (M : Nm K mg A) : FnOk P w K mg base (L2.CX P w) 6 A.slot_surplus A.fd_slot_surplus ["inventory"] (spD rtN ⟨K, mg⟩ F_slot_surplus) :=
  dDef (k := 5) M.f_slot_surplus sc_slot_surplus fun cdv Ar outer s H E hr G W tk ps => (dsCons (dDrop (de_v (dCall (ok_check_inventory M) (hr.mono (by decide)) M.g_check_inventory M.f_check_inventory.kp M.z_check_inventory tk (dasCons (dVar 0) dasNil))))
    (dsOne (dRetO (dCallN (ok_surplus M) (hr.mono (by decide)) M.g_surplus M.f_surplus.kp M.z_surplus tk (dasCons (dVar 0) dasNil)))))
theorem ok__law_pick (M : Nm K mg A) : FnOk P w K mg base (L2.CX P w) 2 A._law_pick A.fd__law_pick ["_law_source_here", "_law_values"] (spD rtF ⟨K, mg⟩ F__law_pick) :=
  dDef (k := 1) M.f__law_pick sc__law_pick fun cdv Ar outer s H E hr G W tk ps => (dsOne (dRet (dIx (hu_of hr) (dVarV 1) (de_v (dCall (ok__law_draw M) (hr.mono (by decide)) M.g__law_draw M.f__law_draw.kp M.z__law_draw tk (dasCons (dVar 0) (dasCons (do_e (dCallB cl_len M.b_len PyProof.Rows.Boot.«len» (davCons (dVarV 1) davNil))) dasNil)))))))
theorem ok__law_shuffle (M : Nm K mg A) : FnOk P w K mg base (L2.CX P w) 2 A._law_shuffle A.fd__law_shuffle ["_law_source_here", "_law_values"] (spD rtF ⟨K, mg⟩ F__law_shuffle) :=
  dDef (k := 1) M.f__law_shuffle sc__law_shuffle fun cdv Ar outer s H E hr G W tk ps => (dsCons (dOwn (dLst dasNil) sc__law_shuffle.nd)
    (dsCons (dFor ps rfl (diAny (dVar 1)) (dgOne (by exact sc__law_shuffle.nd)) (dsOne (dDropM (dMut 2 mr_insert PySem.F.slot_list_insert PySem.F.type_list_insert (dasCons (dCall (ok__law_draw M) (hr.mono (by decide)) M.g__law_draw M.f__law_draw.kp M.z__law_draw tk (dasCons (dVar 0) (dasCons (do_e (dOp or_add (do_v (dCallB cl_len M.b_len PyProof.Rows.Boot.«len» (davCons (dVarV 2) davNil))) (do_v dInt))) dasNil))) (dasCons (dVar 3) dasNil))))))
    (dsOne (dFz 2 (dRet (dVar 2))))))
theorem ok__law_items (M : Nm K mg A) : FnOk P w K mg base (L2.CX P w) 3 A._law_items A.fd__law_items ["_law_source_here", "_law_limit", "_law_kinds"] (spD rtF ⟨K, mg⟩ F__law_items) :=
  dDef (k := 2) M.f__law_items sc__law_items fun cdv Ar outer s H E hr G W tk ps => (dsCons (dSet (do_e (dCallT cl_tuple M.b_tuple PyProof.Rows.Boot.«tuple» (davCons (do_v (dLc (own := [("_law_k", 14)]) rfl sc__law_items.nd (blkOk_by (N := ["_law_source_here", "_law_limit", "_law_kinds", "_law_roots", "_law_open_slots", "_law_accepted_here", "_law_built", "_law_at", "_law_place", "_law_kind", "_law_limit_here", "_law_slots_here", "_law_earlier", "_law_i", "_law_k", "_law_one"]) (sc := defScope s__law_items) (by decide +kernel)) (diRng1 (davCons (do_v (dOp or_add (do_v dInt) (de_v (dCall (ok__law_draw M) (hr.mono (by decide)) M.g__law_draw M.f__law_draw.kp M.z__law_draw tk (dasCons (dVar 0) (dasCons (dIx (hu_of hr) (do_v (dLst (dasCons (do_e dInt) (dasCons (do_e dInt) (dasCons (do_e dInt) dasNil))))) (de_v (dCall (ok__law_draw M) (hr.mono (by decide)) M.g__law_draw M.f__law_draw.kp M.z__law_draw tk (dasCons (dVar 0) (dasCons (do_e dInt) dasNil))))) dasNil)))))) davNil) M.b_range).e
      (fun _ _ _ _ _ => (dgOne (by exact sc__law_items.nd))) (fun _ _ _ _ _ => dtsNil) (fun _ _ _ _ _ => (dCall (ok__law_pick M) (hr.mono (by decide)) M.g__law_pick M.f__law_pick.kp M.z__law_pick takes0 (dasCons (dVar 0) (dasCons (dVar 2) dasNil)))) (by decide))) davNil))) sc__law_items.nd)
    (dsCons (dSetLc (own := [("_law_i", 13)]) rfl sc__law_items.nd (blkOk_by (N := ["_law_source_here", "_law_limit", "_law_kinds", "_law_roots", "_law_open_slots", "_law_accepted_here", "_law_built", "_law_at", "_law_place", "_law_kind", "_law_limit_here", "_law_slots_here", "_law_earlier", "_law_i", "_law_k", "_law_one"]) (sc := defScope s__law_items) (by decide +kernel)) (diRng1 (davCons (do_v (dCallB cl_len M.b_len PyProof.Rows.Boot.«len» (davCons (dVarV 3) davNil))) davNil) M.b_range).e
      (fun _ _ _ _ _ => (dgOne (by exact sc__law_items.nd))) (fun _ _ _ _ _ => dtsNil) (fun _ _ _ _ _ => (do_e (dTup (dasCons (do_e dStr) (dasCons (dVar 13) dasNil))))) (by decide))
    (dsCons (dOwn (dCallT (cl_list2 rfl) M.b_list PyProof.Rows.Boot.«list» (davCons (dVarV 3) davNil)) sc__law_items.nd)
    (dsCons (dOwn (dLst dasNil) sc__law_items.nd)
    (dsCons (dWhile 1000 ps (dCmpT (or_ne (hu_of hr)) (dVarV 4) (do_v (dLst dasNil))) (dsCons (dSet (dCall (ok__law_draw M) (hr.mono (by decide)) M.g__law_draw M.f__law_draw.kp M.z__law_draw tk (dasCons (dVar 0) (dasCons (do_e (dCallB cl_len M.b_len PyProof.Rows.Boot.«len» (davCons (dVarV 4) davNil))) dasNil))) sc__law_items.nd)
    (dsCons (dParT (dMut 4 mr_pop PySem.F.slot_list_pop PySem.F.type_list_pop (dasCons (dVar 7) dasNil)) (dMut 5 mr_pop PySem.F.slot_list_pop PySem.F.type_list_pop (dasCons (dVar 7) dasNil)) (dgMany rfl (dgsCons (by exact sc__law_items.nd) (dgsCons (by exact sc__law_items.nd) dgsNil))))
    (dsCons (dSet (do_e (dCallB (cl_min rfl) M.b_min PyProof.Rows.Boot.«min» (davCons (do_v dInt) (davCons (do_v (dOp or_sub (do_v (dOp or_sub (do_v (dOp or_sub (dVarV 1) (do_v (dCallB cl_len M.b_len PyProof.Rows.Boot.«len» (davCons (dVarV 6) davNil))))) (do_v (dCallB cl_len M.b_len PyProof.Rows.Boot.«len» (davCons (dVarV 4) davNil))))) (do_v dInt))) davNil)))) sc__law_items.nd)
    (dsCons (dSetB boxLc (dSetLc (own := [("_law_k", 14)]) rfl sc__law_items.nd (blkOk_by (N := ["_law_source_here", "_law_limit", "_law_kinds", "_law_roots", "_law_open_slots", "_law_accepted_here", "_law_built", "_law_at", "_law_place", "_law_kind", "_law_limit_here", "_law_slots_here", "_law_earlier", "_law_i", "_law_k", "_law_one"]) (sc := defScope s__law_items) (by decide +kernel)) (diRng1 (davCons (do_v (dCallB (cl_min rfl) M.b_min PyProof.Rows.Boot.«min» (davCons (dVarV 10) (davCons (de_v (dCall (ok__law_draw M) (hr.mono (by decide)) M.g__law_draw M.f__law_draw.kp M.z__law_draw tk (dasCons (dVar 0) (dasCons (do_e dInt) dasNil)))) davNil)))) davNil) M.b_range).e
      (fun _ _ _ _ _ => (dgOne (by exact sc__law_items.nd))) (fun _ _ _ _ _ => dtsNil) (fun _ _ _ _ _ => (dCall (ok__law_pick M) (hr.mono (by decide)) M.g__law_pick M.f__law_pick.kp M.z__law_pick takes0 (dasCons (dVar 0) (dasCons (dVar 2) dasNil)))) (by decide)))
    (dsCons (dSetB boxLc (dSetLc (own := [("_law_one", 15)]) rfl sc__law_items.nd (blkOk_by (N := ["_law_source_here", "_law_limit", "_law_kinds", "_law_roots", "_law_open_slots", "_law_accepted_here", "_law_built", "_law_at", "_law_place", "_law_kind", "_law_limit_here", "_law_slots_here", "_law_earlier", "_law_i", "_law_k", "_law_one"]) (sc := defScope s__law_items) (by decide +kernel)) (dieOwn (dVarV 6))
      (fun _ _ _ _ _ => (dgOne (by exact sc__law_items.nd))) (fun _ _ _ _ _ => (dtsOne (dW (dAnd (dCmpT (or_eq (hu_of hr)) (de_v (dIx (hu_of hr) (dVarV 15) (do_v dInt))) (dVarV 9)) (dAnd1 (dCmpT (or_le (hu_of hr)) (do_v (dCallB cl_len M.b_len PyProof.Rows.Boot.«len» (davCons (de_v (dIx (hu_of hr) (dVarV 15) (do_v dInt))) davNil))) (dVarV 10))))))) (fun _ _ _ _ _ => (dIx (hu_of hr) (dVarV 15) (do_v dInt))) (by decide)))
    (dsCons (dsIf (dW (dAnd (dCmpT (or_ne (hu_of hr)) (dVarV 12) (do_v (dLst dasNil))) (dAnd1 (dCmpT (or_eq (hu_of hr)) (de_v (dCall (ok__law_draw M) (hr.mono (by decide)) M.g__law_draw M.f__law_draw.kp M.z__law_draw tk (dasCons (dVar 0) (dasCons (do_e dInt) dasNil)))) (do_v dInt))))) (dsOne (dSet (do_e (dCallT (cl_list2 rfl) M.b_list PyProof.Rows.Boot.«list» (davCons (de_v (dCall (ok__law_pick M) (hr.mono (by decide)) M.g__law_pick M.f__law_pick.kp M.z__law_pick tk (dasCons (dVar 0) (dasCons (dVar 12) dasNil)))) davNil))) sc__law_items.nd)) dsNil)
    (dsCons (dFor ps rfl (diRng1 (davCons (do_v (dCallB cl_len M.b_len PyProof.Rows.Boot.«len» (davCons (dVarV 11) davNil))) davNil) M.b_range) (dgOne (by exact sc__law_items.nd)) (dsCons (dDropM (dMut 4 mr_append PySem.F.slot_list_append PySem.F.type_list_append (dasCons (do_e (dTup (dasCons (do_e (dCallB cl_len M.b_len PyProof.Rows.Boot.«len» (davCons (dVarV 6) davNil))) (dasCons (dVar 13) dasNil)))) dasNil)))
    (dsOne (dDropM (dMut 5 mr_append PySem.F.slot_list_append PySem.F.type_list_append (dasCons (dIx (hu_of hr) (dVarV 11) (dVarV 13)) dasNil))))))
    (dsOne (dDropM (dMut 6 mr_append PySem.F.slot_list_append PySem.F.type_list_append (dasCons (do_e (dTup (dasCons (dVar 9) (dasCons (do_e (dCallT cl_tuple M.b_tuple PyProof.Rows.Boot.«tuple» (davCons (dVarV 11) davNil))) (dasCons (dVar 8) dasNil))))) dasNil))))))))))))
    (dsOne (dFz 6 (dRet (do_e (dTup (dasCons (dVar 3) (dasCons (dVar 6) dasNil))))))))))))
theorem ok__law_inventory (M : Nm K mg A) : FnOk P w K mg base (L2.CX P w) 4 A._law_inventory A.fd__law_inventory ["_law_source_here", "_law_limit"] (spD rtF ⟨K, mg⟩ F__law_inventory) :=
  dDef (k := 3) M.f__law_inventory sc__law_inventory fun cdv Ar outer s H E hr G W tk ps => (dsCons (dSet (dIx (hu_of hr) (do_v (dLst (dasCons (do_e dInt) (dasCons (do_e dInt) (dasCons (do_e dInt) (dasCons (do_e dInt) (dasCons (do_e dInt) (dasCons (do_e dInt) dasNil)))))))) (de_v (dCall (ok__law_draw M) (hr.mono (by decide)) M.g__law_draw M.f__law_draw.kp M.z__law_draw tk (dasCons (dVar 0) (dasCons (do_e dInt) dasNil))))) sc__law_inventory.nd)
    (dsCons (dSet (do_e (dSl (de_v (dCall (ok__law_shuffle M) (hr.mono (by decide)) M.g__law_shuffle M.f__law_shuffle.kp M.z__law_shuffle tk (dasCons (dVar 0) (dasCons (do_e (dLst (dasCons (do_e dStr) (dasCons (do_e dStr) (dasCons (do_e dStr) (dasCons (do_e dStr) (dasCons (do_e dStr) (dasCons (do_e dStr) dasNil)))))))) dasNil)))) dNo (dPart (dVarV 2)))) sc__law_inventory.nd)
    (dsCons (dUnp (dCall (ok__law_items M) (hr.mono (by decide)) M.g__law_items M.f__law_items.kp M.z__law_items tk (dasCons (dVar 0) (dasCons (dVar 1) (dasCons (dVar 3) dasNil)))) (dgMany rfl (dgsCons (by exact sc__law_inventory.nd) (dgsCons (by exact sc__law_inventory.nd) dgsNil))))
    (dsCons (dSet (do_e (dLst (dasCons (do_e dStr) (dasCons (do_e dStr) (dasCons (do_e dStr) (dasCons (do_e dStr) (dasCons (do_e dStr) (dasCons (do_e dStr) (dasCons (do_e dStr) (dasCons (do_e dStr) (dasCons (do_e dStr) (dasCons (do_e dStr) (dasCons (do_e dStr) (dasCons (do_e dStr) (dasCons (do_e dStr) (dasCons (do_e dStr) (dasCons (do_e dStr) (dasCons (do_e dStr) dasNil)))))))))))))))))) sc__law_inventory.nd)
    (dsCons (dSet (dCall (ok__law_shuffle M) (hr.mono (by decide)) M.g__law_shuffle M.f__law_shuffle.kp M.z__law_shuffle tk (dasCons (dVar 0) (dasCons (do_e (dOp or_add (dVarV 6) (do_v (dLst (dasCons (do_e dStr) (dasCons (do_e dStr) (dasCons (do_e dStr) (dasCons (do_e dStr) (dasCons (do_e dStr) (dasCons (do_e dStr) (dasCons (do_e dStr) (dasCons (do_e dStr) dasNil)))))))))))) dasNil))) sc__law_inventory.nd)
    (dsCons (dOwn dDic0 sc__law_inventory.nd)
    (dsCons (dFor ps rfl (diRng1 (davCons (do_v (dCallB cl_len M.b_len PyProof.Rows.Boot.«len» (davCons (dVarV 5) davNil))) davNil) M.b_range) (dgOne (by exact sc__law_inventory.nd)) (dsCons (dUnp (dIx (hu_of hr) (de_v (dIx (hu_of hr) (dVarV 5) (dVarV 8))) (do_v dInt)) (dgMany rfl (dgsCons (by exact sc__law_inventory.nd) (dgsCons (by exact sc__law_inventory.nd) dgsNil))))
    (dsCons (dsIf (dCmpT (or_ne (hu_of hr)) (dVarV 9) (do_v dStr)) (dsOne (dSet (dIx (hu_of hr) (dVarV 6) (dVarV 9)) sc__law_inventory.nd)) dsNil)
    (dsOne (dPutD 7 (hu_of hr) (dIx (hu_of hr) (dVarV 6) (dVarV 8)) (do_e (dTup (dasCons (dVar 9) (dasCons (dVar 10) dasNil)))))))))
    (dsCons (dSet (do_e (dCallB (cl_sorted2 rfl (hu_of hr)) M.b_sorted PyProof.Rows.Boot.«sorted» (davCons (do_v (dLc (own := [("_law_k", 8)]) rfl sc__law_inventory.nd (blkOk_by (N := ["_law_source_here", "_law_limit", "_law_count", "_law_kinds", "_law_roots", "_law_built", "_law_name_pool", "_law_contents", "_law_k", "_law_owner", "_law_i", "_law_items_here", "_law_place"]) (sc := defScope s__law_inventory) (by decide +kernel)) (diRng1 (davCons (do_v (dCallB cl_len M.b_len PyProof.Rows.Boot.«len» (davCons (dVarV 5) davNil))) davNil) M.b_range).e
      (fun _ _ _ _ _ => (dgOne (by exact sc__law_inventory.nd))) (fun _ _ _ _ _ => dtsNil) (fun _ _ _ _ _ => (do_e (dTup (dasCons (dIx (hu_of hr) (dVarV 6) (dVarV 8)) (dasCons (dIx (hu_of hr) (de_v (dIx (hu_of hr) (dVarV 5) (dVarV 8))) (do_v dInt)) (dasCons (dIx (hu_of hr) (de_v (dIx (hu_of hr) (dVarV 5) (dVarV 8))) (do_v dInt)) dasNil)))))) (by decide))) davNil))) sc__law_inventory.nd)
    (dsOne (dRet (do_e (dTup (dasCons (do_e (dTup (dasCons (dVar 4) (dasCons (dVar 11) dasNil)))) (dasCons (do_e (dLc (own := [("_law_place", 12)]) rfl sc__law_inventory.nd (blkOk_by (N := ["_law_source_here", "_law_limit", "_law_count", "_law_kinds", "_law_roots", "_law_built", "_law_name_pool", "_law_contents", "_law_k", "_law_owner", "_law_i", "_law_items_here", "_law_place"]) (sc := defScope s__law_inventory) (by decide +kernel)) (diAny (do_e (dCallB (cl_sorted2 rfl (hu_of hr)) M.b_sorted PyProof.Rows.Boot.«sorted» (davCons (dVarV 7) davNil)))).e
      (fun _ _ _ _ _ => (dgOne (by exact sc__law_inventory.nd))) (fun _ _ _ _ _ => dtsNil) (fun _ _ _ _ _ => (dIx (hu_of hr) (dVarV 7) (dVarV 12))) (by decide))) dasNil))))))))))))))
theorem ok__law_slots (M : Nm K mg A) : FnOk P w K mg base (L2.CX P w) 1 A._law_slots A.fd__law_slots ["_law_inventory_here"] (spD rtF ⟨K, mg⟩ F__law_slots) :=
  dDef (k := 0) M.f__law_slots sc__law_slots fun cdv Ar outer s H E hr G W tk ps => (dsCons (dSetB boxLc (dSetLc (own := [("_law_i", 5)]) rfl sc__law_slots.nd (blkOk_by (N := ["_law_inventory_here", "_law_result", "_law_name", "_law_kind", "_law_slots_here", "_law_i"]) (sc := defScope s__law_slots) (by decide +kernel)) (diRng1 (davCons (do_v (dCallB cl_len M.b_len PyProof.Rows.Boot.«len» (davCons (de_v (dIx (hu_of hr) (dVarV 0) (do_v dInt))) davNil))) davNil) M.b_range).e
      (fun _ _ _ _ _ => (dgOne (by exact sc__law_slots.nd))) (fun _ _ _ _ _ => dtsNil) (fun _ _ _ _ _ => (do_e (dTup (dasCons (do_e dStr) (dasCons (dVar 5) dasNil))))) (by decide)))
    (dsCons (dFor ps rfl (diAny (dIx (hu_of hr) (dVarV 0) (do_v dInt))) (dgMany rfl (dgsCons (by exact sc__law_slots.nd) (dgsCons (by exact sc__law_slots.nd) (dgsCons (by exact sc__law_slots.nd) dgsNil)))) (dsOne (dSet (do_e (dOp or_add (dVarV 1) (do_v (dLc (own := [("_law_i", 5)]) rfl sc__law_slots.nd (blkOk_by (N := ["_law_inventory_here", "_law_result", "_law_name", "_law_kind", "_law_slots_here", "_law_i"]) (sc := defScope s__law_slots) (by decide +kernel)) (diRng1 (davCons (do_v (dCallB cl_len M.b_len PyProof.Rows.Boot.«len» (davCons (dVarV 4) davNil))) davNil) M.b_range).e
      (fun _ _ _ _ _ => (dgOne (by exact sc__law_slots.nd))) (fun _ _ _ _ _ => dtsNil) (fun _ _ _ _ _ => (do_e (dTup (dasCons (dVar 2) (dasCons (dVar 5) dasNil))))) (by decide))))) sc__law_slots.nd)))
    (dsOne (dRet (dVar 1)))))
theorem ok__law_accepted (M : Nm K mg A) : FnOk P w K mg base (L2.CX P w) 1 A._law_accepted A.fd__law_accepted ["_law_inventory_here"] (spD rtF ⟨K, mg⟩ F__law_accepted) :=
  dDef (k := 0) M.f__law_accepted sc__law_accepted fun cdv Ar outer s H E hr G W tk ps => (dsCons (dSet (do_e (dCallT (cl_list2 rfl) M.b_list PyProof.Rows.Boot.«list» (davCons (de_v (dIx (hu_of hr) (dVarV 0) (do_v dInt))) davNil))) sc__law_accepted.nd)
    (dsCons (dFor ps rfl (diAny (dIx (hu_of hr) (dVarV 0) (do_v dInt))) (dgMany rfl (dgsCons (by exact sc__law_accepted.nd) (dgsCons (by exact sc__law_accepted.nd) (dgsCons (by exact sc__law_accepted.nd) dgsNil)))) (dsOne (dSet (do_e (dOp or_add (dVarV 1) (do_v (dCallT (cl_list2 rfl) M.b_list PyProof.Rows.Boot.«list» (davCons (dVarV 4) davNil))))) sc__law_accepted.nd)))
    (dsOne (dRet (dVar 1)))))
theorem ok__law_surplus (M : Nm K mg A) : FnOk P w K mg base (L2.CX P w) 2 A._law_surplus A.fd__law_surplus ["_law_inventory_here"] (spD rtF ⟨K, mg⟩ F__law_surplus) :=
  dDef (k := 1) M.f__law_surplus sc__law_surplus fun cdv Ar outer s H E hr G W tk ps => (dsCons (dSetB boxLc (dSetLc (own := [("_law_name", 5), ("_law_kind", 4), ("_law_slots_here", 6)]) rfl sc__law_surplus.nd (blkOk_by (N := ["_law_inventory_here", "_law_values", "_law_accepted_here", "_law_table", "_law_kind", "_law_name", "_law_slots_here"]) (sc := defScope s__law_surplus) (by decide +kernel)) (diAny (dIx (hu_of hr) (dVarV 0) (do_v dInt))).e
      (fun _ _ _ _ _ => (dgMany rfl (dgsCons (by exact sc__law_surplus.nd) (dgsCons (by exact sc__law_surplus.nd) (dgsCons (by exact sc__law_surplus.nd) dgsNil))))) (fun _ _ _ _ _ => dtsNil) (fun _ _ _ _ _ => (dVar 4)) (by decide)))
    (dsCons (dSet (dCall (ok__law_accepted M) (hr.mono (by decide)) M.g__law_accepted M.f__law_accepted.kp M.z__law_accepted tk (dasCons (dVar 0) dasNil)) sc__law_surplus.nd)
    (dsCons (dOwn dDic0 sc__law_surplus.nd)
    (dsCons (dFor ps rfl (diAny (do_e (dSortSet (do_v (dOp or_add (dVarV 1) (dVarV 2))) rfl (hu_of hr) M.b_sorted M.b_set))) (dgOne (by exact sc__law_surplus.nd)) (dsOne (dsIf (dCmpT (or_ne (hu_of hr)) (do_v (dCount (hu_of hr) (dVarV 2) (davCons (dVarV 4) davNil))) (do_v (dCount (hu_of hr) (dVarV 1) (davCons (dVarV 4) davNil)))) (dsOne (dPutD 3 (hu_of hr) (do_e (dOp or_sub (do_v (dCount (hu_of hr) (dVarV 2) (davCons (dVarV 4) davNil))) (do_v (dCount (hu_of hr) (dVarV 1) (davCons (dVarV 4) davNil))))) (dVar 4))) dsNil)))
    (dsOne (dFz 3 (dRet (dVar 3))))))))
theorem ok__law_changed (M : Nm K mg A) : FnOk P w K mg base (L2.CX P w) 2 A._law_changed A.fd__law_changed ["_law_source_here", "_law_inventory_here"] (spD rtF ⟨K, mg⟩ F__law_changed) :=
  dDef (k := 1) M.f__law_changed sc__law_changed fun cdv Ar outer s H E hr G W tk ps => (dsCons (dUnp (dVar 1) (dgMany rfl (dgsCons (by exact sc__law_changed.nd) (dgsCons (by exact sc__law_changed.nd) dgsNil))))
    (dsCons (dSet (dCall (ok__law_draw M) (hr.mono (by decide)) M.g__law_draw M.f__law_draw.kp M.z__law_draw tk (dasCons (dVar 0) (dasCons (do_e (dCallB cl_len M.b_len PyProof.Rows.Boot.«len» (davCons (dVarV 3) davNil))) dasNil))) sc__law_changed.nd)
    (dsCons (dUnp (dIx (hu_of hr) (dVarV 3) (dVarV 4)) (dgMany rfl (dgsCons (by exact sc__law_changed.nd) (dgsCons (by exact sc__law_changed.nd) (dgsCons (by exact sc__law_changed.nd) dgsNil)))))
    (dsCons (dSet (dCall (ok__law_draw M) (hr.mono (by decide)) M.g__law_draw M.f__law_draw.kp M.z__law_draw tk (dasCons (dVar 0) (dasCons (do_e dInt) dasNil))) sc__law_changed.nd)
    (dsCons (dsIf (dW (dAnd (dCmpT (or_eq (hu_of hr)) (dVarV 8) (do_v dInt)) (dAnd1 (dCmpT (or_gt (hu_of hr)) (do_v (dCallB cl_len M.b_len PyProof.Rows.Boot.«len» (davCons (dVarV 3) davNil))) (do_v dInt))))) (dsOne (dRet (do_e (dTup (dasCons (dVar 2) (dasCons (do_e (dOp or_add (do_v (dSl (dVarV 3) dNo (dPart (dVarV 4)))) (do_v (dSl (dVarV 3) (dPart (do_v (dOp or_add (dVarV 4) (do_v dInt)))) dNo)))) dasNil)))))) dsNil)
    (dsCons (dsIf (dCmpT (or_eq (hu_of hr)) (dVarV 8) (do_v dInt)) (dsOne (dRet (do_e (dTup (dasCons (dVar 2) (dasCons (do_e (dOp or_add (do_v (dOp or_add (do_v (dSl (dVarV 3) dNo (dPart (dVarV 4)))) (do_v (dLst (dasCons (do_e (dTup (dasCons (dVar 5) (dasCons (dVar 6) (dasCons (do_e (dSl (do_v (dOp or_add (dVarV 7) (dVarV 2))) dNo (dPart (do_v dInt)))) dasNil))))) dasNil))))) (do_v (dSl (dVarV 3) (dPart (do_v (dOp or_add (dVarV 4) (do_v dInt)))) dNo)))) dasNil)))))) dsNil)
    (dsCons (dsIf (dCmpT (or_eq (hu_of hr)) (dVarV 8) (do_v dInt)) (dsOne (dRet (do_e (dTup (dasCons (do_e (dRev2 (dVarV 2))) (dasCons (do_e (dOp or_add (do_v (dOp or_add (do_v (dSl (dVarV 3) dNo (dPart (dVarV 4)))) (do_v (dLst (dasCons (do_e (dTup (dasCons (dVar 5) (dasCons (dIx (hu_of hr) (dVarV 2) (do_v dInt)) (dasCons (do_e (dRev2 (dVarV 7))) dasNil))))) dasNil))))) (do_v (dSl (dVarV 3) (dPart (do_v (dOp or_add (dVarV 4) (do_v dInt)))) dNo)))) dasNil)))))) dsNil)
    (dsOne (dRet (do_e (dTup (dasCons (do_e (dSl (do_v (dOp or_add (dVarV 2) (dVarV 2))) dNo (dPart (do_v dInt)))) (dasCons (dVar 3) dasNil)))))))))))))
theorem ok__law_raised (M : Nm K mg A) : FnOk P w K mg base (L2.CX P w) 7 A._law_raised A.fd__law_raised ["_law_inventory_here", "_law_place"] (spD rtF ⟨K, mg⟩ F__law_raised) :=
  dDef (k := 6) M.f__law_raised sc__law_raised fun cdv Ar outer s H E hr G W tk ps => (dsCons (dSet (do_e dNon) sc__law_raised.nd)
    (dsCons (dTry rfl rfl rfl sc__law_raised.nd ⟨by rfl, by decide, .inl M.g_LikeholesError⟩ tk M.te_LikeholesError (fun W pn xe tk ps => (dsOne (dDrop (de_v (dCall (ok_slot_kind M) (hr.mono (by decide)) M.g_slot_kind M.f_slot_kind.kp M.z_slot_kind tk (dasCons (dVar 0) (dasCons (dVar 1) dasNil))))))))
    (dsOne (dRet (do_e (dLst (dasCons (do_e (dIsO (dVarV 2) M.b_isinstance M.g_InvalidInventory M.ti_InvalidInventory)) (dasCons (do_e (dIsO (dVarV 2) M.b_isinstance M.g_UnknownSlot M.ti_UnknownSlot)) (dasCons (do_e (dIsB (dVarV 2) M.b_isinstance M.b_ValueError PyProof.Rows.Boot.«ValueError» M.ti_ValueError)) dasNil)))))))))
theorem ok__law_spoil (M : Nm K mg A) : FnOk P w K mg base (L2.CX P w) 1 A._law_spoil A.fd__law_spoil ["_law_first", "_law_second"] (spO ⟨K, mg⟩ F__law_spoil) :=
  dDefO (k := 0) M.f__law_spoil sc__law_spoil fun cdv Ar outer s H E hr G W tk ps => (dsCons (dDropM (dMut 0 mr_append PySem.F.slot_list_append PySem.F.type_list_append (dasCons (do_e dNon) dasNil)))
    (dsOne (dPutD 1 (hu_of hr) (do_e dInt) (do_e dStr))))
theorem ok_law (M : Nm K mg A) (math : ∀ cs, cellsOk cs → ∃ S', B_law (rho0 14) ⟨cs, 0⟩ = .rt (.dat (.bool true)) S') : FnG P w K mg base (L2.CX P w) 8 A.law A.fd_law ["_law_script"] (spLaw K) :=
  dLaw (k := 7) M.f_law sc_law (by decide) (fun cdv Ar outer s H E gd hr W tk ps => (pss_cons (ps_set (i := 1) sc_law.nd rfl (by first | exact .inl rfl | exact .inr rfl) (pe_callS (ok__law_source M) (hr.mono (by decide)) (by rfl) M.g__law_source M.f__law_source.kp M.z__law_source (fun σ => passAt tk σ) (pa_cons (pv 0) pa_nil)))
    (dsAny fun G => (dsCons (dSet (do_e (dOp or_pow (do_v dInt) (do_v dInt))) sc_law.nd)
    (dsCons (dFor ps rfl (diRng1 (davCons (do_v dInt) davNil) M.b_range) (dgOne (by exact sc_law.nd)) (dsOne (dSet (do_e (dMul (dNb (dVar 2)) (do_v (dOp or_pow (do_v dInt) (do_v dInt))))) sc_law.nd)))
    (dsCons (dFor ps rfl (diRng1 (davCons (do_v dInt) davNil) M.b_range) (dgOne (by exact sc_law.nd)) (dsCons (dSet (dIx (hu_of hr) (de_v (dCall (ok__law_inventory M) (hr.mono (by decide)) M.g__law_inventory M.f__law_inventory.kp M.z__law_inventory tk (dasCons (dVar 1) (dasCons (do_e dInt) dasNil)))) (do_v dInt)) sc_law.nd)
    (dsOne (dFor ps rfl (diAny (do_e (dLst (dasCons (dVar 5) (dasCons (dCall (ok__law_changed M) (hr.mono (by decide)) M.g__law_changed M.f__law_changed.kp M.z__law_changed tk (dasCons (dVar 1) (dasCons (dVar 5) dasNil))) dasNil))))) (dgOne (by exact sc_law.nd)) (dsCons (dSet (do_e (dCallB (cl_repr2 gd (hu_of hr)) M.b_repr PyProof.Rows.Boot.«repr» (davCons (dVarV 6) davNil))) sc_law.nd)
    (dsCons (dSet (dCall (ok__law_slots M) (hr.mono (by decide)) M.g__law_slots M.f__law_slots.kp M.z__law_slots tk (dasCons (dVar 6) dasNil)) sc_law.nd)
    (dsCons (dDropO (ok__law_spoil M) (hr.mono (by decide)) M.g__law_spoil M.f__law_spoil.kp M.z__law_spoil tk (pa_cons (dCallN (ok_list_slots M) (hr.mono (by decide)) M.g_list_slots M.f_list_slots.kp M.z_list_slots tk (dasCons (dVar 6) dasNil)) (pa_cons (dCallN (ok_slot_surplus M) (hr.mono (by decide)) M.g_slot_surplus M.f_slot_surplus.kp M.z_slot_surplus tk (dasCons (dVar 6) dasNil)) pa_nil)))
    (dsCons (dsIf (dW (dOr (dCmpT (or_ne (hu_of hr)) (do_v (dCallB (cl_repr2 gd (hu_of hr)) M.b_repr PyProof.Rows.Boot.«repr» (davCons (do_v (dCallN (ok_list_slots M) (hr.mono (by decide)) M.g_list_slots M.f_list_slots.kp M.z_list_slots tk (dasCons (dVar 6) dasNil))) davNil))) (do_v (dCallB (cl_repr2 gd (hu_of hr)) M.b_repr PyProof.Rows.Boot.«repr» (davCons (dVarV 8) davNil)))) (dOr1 (dCmpT (or_ne (hu_of hr)) (do_v (dCallB (cl_repr2 gd (hu_of hr)) M.b_repr PyProof.Rows.Boot.«repr» (davCons (do_v (dCallN (ok_slot_surplus M) (hr.mono (by decide)) M.g_slot_surplus M.f_slot_surplus.kp M.z_slot_surplus tk (dasCons (dVar 6) dasNil))) davNil))) (do_v (dCallB (cl_repr2 gd (hu_of hr)) M.b_repr PyProof.Rows.Boot.«repr» (davCons (de_v (dCall (ok__law_surplus M) (hr.mono (by decide)) M.g__law_surplus M.f__law_surplus.kp M.z__law_surplus tk (dasCons (dVar 6) dasNil))) davNil))))))) (dsOne (dRet (do_e dBl))) dsNil)
    (dsCons (dsIf (dW (dOr (dCmpT (or_ne (hu_of hr)) (do_v (dLc (own := [("_law_place", 13)]) rfl sc_law.nd (blkOk_by (N := ["_law_script", "_law_source_here", "_law_great", "_law_k", "_law_repeat", "_law_inventory_here", "_law_one", "_law_before", "_law_places", "_law_name", "_law_kind", "_law_slots_here", "_law_invalid", "_law_place"]) (sc := defScope s_law) (by decide +kernel)) (diAny (dVar 8)).e
      (fun _ _ _ _ _ => (dgOne (by exact sc_law.nd))) (fun _ _ _ _ _ => dtsNil) (fun _ _ _ _ _ => (dCall (ok_slot_kind M) (hr.mono (by decide)) M.g_slot_kind M.f_slot_kind.kp M.z_slot_kind takes0 (dasCons (dVar 6) (dasCons (dVar 13) dasNil)))) (by decide))) (de_v (dCall (ok__law_accepted M) (hr.mono (by decide)) M.g__law_accepted M.f__law_accepted.kp M.z__law_accepted tk (dasCons (dVar 6) dasNil)))) (dOr1 (dCmpT (or_ne (hu_of hr)) (do_v (dCallB (cl_repr2 gd (hu_of hr)) M.b_repr PyProof.Rows.Boot.«repr» (davCons (dVarV 6) davNil))) (dVarV 7))))) (dsOne (dRet (do_e dBl))) dsNil)
    (dsCons (dUnp (dIx (hu_of hr) (de_v (dIx (hu_of hr) (dVarV 6) (do_v dInt))) (do_v dInt)) (dgMany rfl (dgsCons (by exact sc_law.nd) (dgsCons (by exact sc_law.nd) (dgsCons (by exact sc_law.nd) dgsNil)))))
    (dsCons (dOwn (dLst (dasCons (do_e (dTup (dasCons (do_e dStr) (dasCons (do_e (dCallB cl_len M.b_len PyProof.Rows.Boot.«len» (davCons (de_v (dIx (hu_of hr) (dVarV 6) (do_v dInt))) davNil))) dasNil)))) (dasCons (do_e (dTup (dasCons (do_e dStr) (dasCons (do_e (dNeg (do_v dInt))) dasNil)))) (dasCons (do_e (dTup (dasCons (dVar 9) (dasCons (do_e (dCallB cl_len M.b_len PyProof.Rows.Boot.«len» (davCons (dVarV 11) davNil))) dasNil)))) (dasCons (do_e (dTup (dasCons (dVar 9) (dasCons (do_e (dNeg (do_v dInt))) dasNil)))) (dasCons (do_e (dTup (dasCons (do_e dStr) (dasCons (do_e dInt) dasNil)))) (dasCons (do_e (dTup (dasCons (do_e dStr) (dasCons (do_e dBl) dasNil)))) (dasCons (do_e dNon) dasNil)))))))) sc_law.nd)
    (dsCons (dOwn (dOp or_add (dVarV 12) (do_v (dLst (dasCons (do_e (dLst (dasCons (do_e dStr) (dasCons (do_e dInt) dasNil)))) (dasCons (do_e (dTup (dasCons (do_e dStr) dasNil))) (dasCons (do_e (dTup (dasCons (do_e dStr) (dasCons (do_e dInt) (dasCons (do_e dInt) dasNil))))) (dasCons (do_e (dTup (dasCons (do_e dNon) (dasCons (do_e dInt) dasNil)))) (dasCons (do_e (dTup (dasCons (do_e dInt) (dasCons (do_e dStr) dasNil)))) (dasCons (do_e (dTup (dasCons (do_e dStr) (dasCons (do_e dStr) dasNil)))) (dasCons (do_e (dTup (dasCons (do_e dStr) (dasCons (dVar 2) dasNil)))) dasNil)))))))))) sc_law.nd)
    (dsCons (dDropM (dMut 12 mr_append PySem.F.slot_list_append PySem.F.type_list_append (dasCons (do_e (dTup (dasCons (dVar 9) (dasCons (do_e (dOp or_sub (do_v dInt) (dVarV 2))) dasNil)))) dasNil)))
    (dsCons (dOwn (dOp or_add (dVarV 12) (do_v (dLst (dasCons (do_e (dTup (dasCons (do_e (dLst (dasCons (do_e dStr) dasNil))) (dasCons (do_e dInt) dasNil)))) (dasCons (do_e (dTup (dasCons (do_e dStr) (dasCons (do_e (dLst (dasCons (do_e dInt) dasNil))) dasNil)))) (dasCons (do_e (dTup (dasCons (do_e dStr) (dasCons (do_e dBl) dasNil)))) (dasCons (do_e (dTup (dasCons (dVar 9) (dasCons (do_e dBl) dasNil)))) (dasCons (do_e (dTup (dasCons (dVar 9) (dasCons (do_e dBl) dasNil)))) dasNil)))))))) sc_law.nd)
    (dsOne (dFz 12 (dFor ps rfl (diAny (dVar 12)) (dgOne (by exact sc_law.nd)) (dsOne (dsIf (dW (dOr (dCmpT (or_ne (hu_of hr)) (de_v (dCall (ok__law_raised M) (hr.mono (by decide)) M.g__law_raised M.f__law_raised.kp M.z__law_raised tk (dasCons (dVar 6) (dasCons (dVar 13) dasNil)))) (do_v (dLst (dasCons (do_e dBl) (dasCons (do_e dBl) (dasCons (do_e dBl) dasNil)))))) (dOr1 (dCmpT (or_ne (hu_of hr)) (de_v (dCall (ok__law_raised M) (hr.mono (by decide)) M.g__law_raised M.f__law_raised.kp M.z__law_raised tk (dasCons (do_e dNon) (dasCons (dVar 13) dasNil)))) (do_v (dLst (dasCons (do_e dBl) (dasCons (do_e dBl) (dasCons (do_e dBl) dasNil))))))))) (dsOne (dRet (do_e dBl))) dsNil)))))))))))))))))))
    (dsOne (dRet (do_e dBl))))))))) math
end
end K02

/-! mirrors are evaluated: rules that simp uses -/
namespace L2.HL
open PySem PySem.Spec PyProof.Rows
section
variable {ρ : En} {S S' : Src} {i : Nat}
theorem defF_eq {n m : Nat} {b : SF} {xs : List Vl} (h : xs.length = m) : defF n m b xs S = (b (env0 n xs) S).out := by unfold defF; rw [if_pos h]
theorem defN_eq {n m : Nat} {b : SF} {xs : List Vl} (h : xs.length = m) : defN n m b xs S = (b (env0 n xs) S).outN := by unfold defN; rw [if_pos h]
@[simp] theorem out_rt (x : Vl) : (SOut.rt x S).out = .ok x S := rfl
@[simp] theorem out_exn (c : Str) (f : Flds) : (SOut.exn c f ρ S).out = .exn c f S := rfl
@[simp] theorem outN_nx : (SOut.nx ρ S).outN = .ok (.dat .none) S := rfl
@[simp] theorem outN_rt (x : Vl) : (SOut.rt x S).outN = .ok x S := rfl
@[simp] theorem outN_exn (c : Str) (f : Flds) : (SOut.exn c f ρ S).outN = .exn c f S := rfl
@[simp] theorem fC_eq (d : PyData) : fC d ρ S = .ok (.dat d) S := rfl
@[simp] theorem fNil_eq : fNil ρ S = .ok [] S := rfl
@[simp] theorem fNo_eq : fNo ρ S = .ok none S := rfl
@[simp] theorem fPart_int {f : EF} {k : Int} (h : f ρ S = .ok (.dat (.int k)) S') : fPart f ρ S = .ok (some k) S' := by
  unfold fPart
  rw [h]
  rfl
theorem bind_assoc3 {α β γ : Type} (o : Out α) (k : α → Src → Out β) (k' : β → Src → Out γ) : (o.bind k).bind k' = o.bind fun a S => (k a S).bind k' := Out.bind_assoc o k k'
end
/-! ### comprehensions without draws -/
section
variable {t : Tgt} {vs : List Nat} {c : BF} {u uk uv : EF} {ρ : En} {S : Src}
theorem lcL_pure (p : PyData → Bool) (g : PyData → PyData) : ∀ {ds acc : List PyData}, (∀ d ∈ ds, ∃ ρ1, bindT t (.dat d) (wipeE ρ vs) = some ρ1 ∧ c ρ1 S = .ok (p d) S ∧ (p d = true → u ρ1 S = .ok (.dat (g d)) S)) → acc.length + ds.length ≤ 16000000 → lcL t vs c u ds acc ρ S = .ok (acc ++ (ds.filter p).map g) S
  | [], acc, h, hl => by unfold lcL; simp
  | d :: ds, acc, h, hl => by
    obtain ⟨ρ1, e1, e2, e3⟩ := h d List.mem_cons_self
    have rest := fun (acc' : List PyData) (hl' : acc'.length + ds.length ≤ 16000000) => lcL_pure p g (ds := ds) (acc := acc') (fun e m => h e (List.mem_cons_of_mem _ m)) hl'
    unfold lcL
    rw [e1]
    dsimp only
    rw [e2]
    cases hp : p d with
    | false =>
      dsimp only
      rw [rest acc (by simp at hl; omega), List.filter_cons_of_neg (by rw [hp]; simp)]
    | true =>
      dsimp only
      rw [e3 hp]
      dsimp only
      have : acc.length < 16000000 := by simp at hl; omega
      rw [if_pos this, rest _ (by simp at hl ⊢; omega), List.filter_cons_of_pos hp]
      simp
theorem lc_pure {lf : LF} {ds : List PyData} (hl : lf ρ S = .ok ds S) (p : PyData → Bool) (g : PyData → PyData) (h : ∀ d ∈ ds, ∃ ρ1, bindT t (.dat d) (wipeE ρ vs) = some ρ1 ∧ c ρ1 S = .ok (p d) S ∧ (p d = true → u ρ1 S = .ok (.dat (g d)) S)) (hn : ds.length ≤ 16000000) :
    fLc lf t vs c u ρ S = .ok (.dat (.list ((ds.filter p).map g))) S := by
  unfold fLc
  rw [hl]
  simp only [Out.bind_ok]
  rw [lcL_pure p g h (by simpa using hn)]
  simp
/-- no test -/
theorem lc_map {lf : LF} {ds : List PyData} (hl : lf ρ S = .ok ds S) (g : PyData → PyData) (h : ∀ d ∈ ds, ∃ ρ1, bindT t (.dat d) (wipeE ρ vs) = some ρ1 ∧ u ρ1 S = .ok (.dat (g d)) S) (hn : ds.length ≤ 16000000) :
    fLc lf t vs (fun _ S => .ok true S) u ρ S = .ok (.dat (.list (ds.map g))) S := by
  rw [lc_pure hl (fun _ => true) g (fun d m => let ⟨ρ1, a, b⟩ := h d m; ⟨ρ1, a, rfl, fun _ => b⟩) hn, List.filter_eq_self.mpr fun _ _ => rfl]
end
/-! ### loops, turn by turn -/
section
variable {t : Tgt} {f : SF} {d : PyData} {ds : List PyData} {ρ ρ1 ρ' : En} {S S' : Src}
theorem sForL_nil : sForL t f [] ρ S = .nx ρ S := rfl
theorem sForL_nx (hb : bindT t (.dat d) ρ = some ρ1) (hf : f ρ1 S = .nx ρ' S') : sForL t f (d :: ds) ρ S = sForL t f ds ρ' S' := by
  rw [sForL]
  simp only [hb, hf]
theorem sForL_rt {x : Vl} (hb : bindT t (.dat d) ρ = some ρ1) (hf : f ρ1 S = .rt x S') : sForL t f (d :: ds) ρ S = .rt x S' := by
  rw [sForL]
  simp only [hb, hf]
theorem sFor_eq {lf : LF} {ds : List PyData} (h : lf ρ S = .ok ds S') : sFor lf t f ρ S = sForL t f ds ρ S' := by
  unfold sFor
  rw [h]
  rfl
end
/-! ### comparisons -/
theorem eqD_small {d e : PyData} (h : e.depth ≤ 100) : eqD (.dat d) (.dat e) = some (PyData.eqv d e) := by
  unfold eqD
  exact if_pos (decide_eq_true (Nat.le_trans (Nat.min_le_right _ _) h))
theorem neD_small {d e : PyData} (h : e.depth ≤ 100) : neD (.dat d) (.dat e) = some (!PyData.eqv d e) := by
  unfold neD
  rw [eqD_small h]
  rfl
@[simp] theorem depth_int (i : Int) : (PyData.int i).depth = 0 := rfl
@[simp] theorem depth_str (x : Str) : (PyData.str x).depth = 0 := rfl
@[simp] theorem depth_none : PyData.none.depth = 0 := rfl
@[simp] theorem depth_bool (b : Bool) : (PyData.bool b).depth = 0 := rfl
@[simp] theorem eqD_ii (i j : Int) : eqD (.dat (.int i)) (.dat (.int j)) = some (decide (i = j)) := by
  rw [eqD_small (by simp), PyData.eqv, Bool.beq_eq_decide_eq]
@[simp] theorem neD_ii (i j : Int) : neD (.dat (.int i)) (.dat (.int j)) = some (!decide (i = j)) := by
  rw [neD_small (by simp), PyData.eqv, Bool.beq_eq_decide_eq]
@[simp] theorem eqD_ss (x y : Str) : eqD (.dat (.str x)) (.dat (.str y)) = some (decide (x = y)) := by
  rw [eqD_small (by simp), PyData.eqv, Bool.beq_eq_decide_eq]
@[simp] theorem neD_ss (x y : Str) : neD (.dat (.str x)) (.dat (.str y)) = some (!decide (x = y)) := by
  rw [neD_small (by simp), PyData.eqv, Bool.beq_eq_decide_eq]
theorem eqv_nil (xs : List PyData) : PyData.eqv (.list xs) (.list []) = xs.isEmpty := by
  rw [PyData.eqv]
  cases xs <;> rfl
@[simp] theorem depth_nil : (PyData.list []).depth ≤ 100 := by decide
@[simp] theorem eqD_nil (xs : List PyData) : eqD (.dat (.list xs)) (.dat (.list [])) = some xs.isEmpty := by rw [eqD_small depth_nil, eqv_nil]
@[simp] theorem neD_nil (xs : List PyData) : neD (.dat (.list xs)) (.dat (.list [])) = some (!xs.isEmpty) := by rw [neD_small depth_nil, eqv_nil]
theorem ordD_ii {h : PyData → PyData → Bool} (i j : Int) : ordD h (.dat (.int i)) (.dat (.int j)) = some (h (.int i) (.int j)) := rfl
theorem ordD_ss {h : PyData → PyData → Bool} (x y : Str) : ordD h (.dat (.str x)) (.dat (.str y)) = some (h (.str x) (.str y)) := rfl
@[simp] theorem ltD_ii (i j : Int) : ltD (.dat (.int i)) (.dat (.int j)) = some (decide (i < j)) := by unfold ltD; rw [ordD_ii, PySem.W.dataLt_int]
@[simp] theorem gtD_ii (i j : Int) : gtD (.dat (.int i)) (.dat (.int j)) = some (decide (j < i)) := by unfold gtD; rw [ordD_ii, PySem.W.dataLt_int]
@[simp] theorem leD_ii (i j : Int) : leD (.dat (.int i)) (.dat (.int j)) = some (decide (i ≤ j)) := by
  unfold leD
  rw [ordD_ii, PySem.W.dataLt_int]
  by_cases e : j < i
  · rw [decide_eq_true e, decide_eq_false (by omega)]; rfl
  · rw [decide_eq_false e, decide_eq_true (by omega)]; rfl
@[simp] theorem geD_ii (i j : Int) : geD (.dat (.int i)) (.dat (.int j)) = some (decide (j ≤ i)) := by
  unfold geD
  rw [ordD_ii, PySem.W.dataLt_int]
  by_cases e : i < j
  · rw [decide_eq_true e, decide_eq_false (by omega)]; rfl
  · rw [decide_eq_false e, decide_eq_true (by omega)]; rfl
@[simp] theorem ltD_ss (x y : Str) : ltD (.dat (.str x)) (.dat (.str y)) = some (decide (x.cps.toList < y.cps.toList)) := by unfold ltD; rw [ordD_ss, PySem.W.dataLt_str]
@[simp] theorem leD_ss (x y : Str) : leD (.dat (.str x)) (.dat (.str y)) = some (!decide (y.cps.toList < x.cps.toList)) := by unfold leD; rw [ordD_ss, PySem.W.dataLt_str]
theorem bools_map (p : PyData → Bool) : ∀ ds : List PyData, bools (ds.map fun d => .bool (p d)) = some (ds.map p)
  | [] => rfl
  | d :: ds => by
    show bools (.bool (p d) :: ds.map fun d => .bool (p d)) = _
    unfold bools
    rw [bools_map p ds]
    rfl
theorem allF_map (p : PyData → Bool) (ds : List PyData) : allF [.dat (.list (ds.map fun d => .bool (p d)))] = some (.dat (.bool (ds.all p))) := by
  show (bools (ds.map fun d => .bool (p d))).map (fun bs => Vl.dat (.bool (bs.all id))) = _
  rw [bools_map]
  simp [List.all_map]
theorem inV_sign (c : Nat) (z : Str) : inV (.dat (.str ⟨#[c]⟩)) (.dat (.str z)) = some (decide (c ∈ z.cps.toList)) := rfl
theorem ninV_sign (c : Nat) (z : Str) : ninV (.dat (.str ⟨#[c]⟩)) (.dat (.str z)) = some (!decide (c ∈ z.cps.toList)) := rfl
/-! ### ranges -/
def rngFrom (k : Nat) : Nat → List PyData
  | 0 => []
  | m + 1 => .int k :: rngFrom (k + 1) m
theorem rngFrom_map : ∀ (m k : Nat), (List.range' k m).map (fun j : Nat => PyData.int (0 + (j : Int))) = rngFrom k m
  | 0, _ => rfl
  | m + 1, k => by
    rw [List.range'_succ, List.map_cons, rngFrom_map m (k + 1)]
    show _ = PyData.int k :: rngFrom (k + 1) m
    rw [Int.zero_add]
theorem rngD_eq (n : Nat) : rngD 0 n = rngFrom 0 n := by
  rw [← rngFrom_map]
  unfold rngD
  rw [show ((n : Int) - 0).toNat = n by omega, List.range_eq_range']
theorem rngF1_nat {n : Nat} (h : n ≤ 1000000) : rngF1 [.dat (.int n)] = some (rngFrom 0 n) := by
  show (if rngOk n = true then some (rngD 0 n) else none) = _
  have ok : rngOk (n : Int) = true := decide_eq_true ⟨by omega, by omega⟩
  rw [if_pos ok, rngD_eq]
theorem rng1_eq {g : AF} {ρ : En} {S S' : Src} {n : Nat} (h : g ρ S = .ok [.dat (.int n)] S') (hn : n ≤ 1000000) : fRng1 g ρ S = .ok (rngFrom 0 n) S' := by
  unfold fRng1
  rw [h, Out.bind_ok, rngF1_nat hn]
  rfl
theorem rngFrom_len : ∀ (k m : Nat), (rngFrom k m).length = m
  | _, 0 => rfl
  | k, m + 1 => by show (rngFrom (k + 1) m).length + 1 = _; rw [rngFrom_len]
/-! ### data without dicts, with small texts -/
mutual
def okD : PyData → Bool
  | .str x => decide (x.length ≤ 1000)
  | .list ds => okAll ds
  | .tuple ds => okAll ds
  | .dict _ => false
  | _ => true
def okAll : List PyData → Bool
  | [] => true
  | d :: ds => okD d && okAll ds
end
theorem okAll_mem : ∀ {ds : List PyData}, okAll ds = true → ∀ d ∈ ds, okD d = true
  | [], _, d, m => absurd m List.not_mem_nil
  | e :: ds, h, d, m => by
    unfold okAll at h
    rw [Bool.and_eq_true] at h
    rcases List.mem_cons.mp m with rfl | m
    · exact h.1
    · exact okAll_mem h.2 d m
theorem okAll_of : ∀ {ds : List PyData}, (∀ d ∈ ds, okD d = true) → okAll ds = true
  | [], _ => by unfold okAll; rfl
  | e :: ds, h => by
    unfold okAll
    rw [h e List.mem_cons_self, okAll_of fun d m => h d (List.mem_cons_of_mem _ m)]
    rfl
/-! ### texts and sizes -/
def smallS (x : Str) : Prop := x.length ≤ 1000
theorem lenF_str {x : Str} (h : smallS x) : lenF [.dat (.str x)] = some (.dat (.int x.length)) := by
  show (if x.length ≤ 16777216 then _ else _) = _
  exact if_pos (Nat.le_trans h (by decide))
end L2.HL

namespace K02
open PySem PySem.Spec PyProof.Rows L2 L2.HL
/-! ### words and kinds, as plain tests -/
def letters : Str := "abcdefghijklmnopqrstuvwxyz"
def wordD : PyData → Bool
  | .str x => decide (1 ≤ x.length ∧ x.length ≤ 8) && x.cps.toList.all fun c => decide (c ∈ letters.cps.toList)
  | _ => false
def kindsD (lo hi : Nat) : PyData → Bool
  | .tuple ds => decide (lo ≤ ds.length ∧ ds.length ≤ hi) && ds.all wordD
  | _ => false
section
variable {S : Src}
abbrev sgs (x : Str) : List PyData := HL.signs x
def lett : PyData → Bool
  | .str y => (y.cps.toList.head?.map fun c => decide (c ∈ letters.cps.toList)).getD false
  | _ => false
theorem sgs_all (x : Str) : (sgs x).all lett = x.cps.toList.all fun c => decide (c ∈ letters.cps.toList) := by
  unfold sgs HL.signs
  rw [List.all_map]
  rfl
theorem sgs_len (x : Str) : (sgs x).length = x.length := by
  unfold sgs HL.signs
  rw [List.length_map, Array.length_toList]
  rfl
theorem word_lc {x : Str} (hz : smallS x) : fLc (fIt (fVar 0)) (.one 1) [1] (fun _ S => .ok true S) (fB (fCp inV (fVarV 1) (fC (.str "abcdefghijklmnopqrstuvwxyz")))) [.fz (.dat (.str x)), .no] S = .ok (.dat (.list ((sgs x).map fun d => .bool (lett d)))) S := by
  refine lc_map (ds := sgs x) rfl _ (fun d m => ?_) (by rw [sgs_len]; exact Nat.le_trans hz (by decide))
  obtain ⟨c, _, rfl⟩ := List.mem_map.mp m
  exact ⟨_, rfl, rfl⟩
theorem is_word_eq {d : PyData} (h : okD d = true) : F_is_word [.dat d] S = .ok (.dat (.bool (wordD d))) S := by
  show defF 2 1 B_is_word [.dat d] S = _
  rw [defF_eq (by rfl)]
  cases d with
  | str x =>
    have hz : smallS x := by unfold okD at h; exact (of_decide_eq_true h : x.length ≤ 1000)
    show (B_is_word [.fz (.dat (.str x)), .no] S).out = _
    unfold B_is_word
    by_cases h1 : 1 ≤ x.length ∧ x.length ≤ 8
    · have w : wordD (.str x) = (sgs x).all lett := by
        rw [sgs_all]
        show (decide (1 ≤ x.length ∧ x.length ≤ 8) && x.cps.toList.all fun c => decide (c ∈ letters.cps.toList)) = _
        rw [decide_eq_true h1]
        rfl
      have i1 : (1 : Int) ≤ x.length := by omega
      have i2 : (x.length : Int) ≤ 8 := by omega
      simp [sRet, fAndV, fU, fVarV, isiV, tyD, asB, fB, fCh, cpF, bV, fAll, fCons, lenF_str hz, word_lc hz, allF_map, w, i1, i2]
    · have w : wordD (.str x) = false := by
        show (decide (1 ≤ x.length ∧ x.length ≤ 8) && x.cps.toList.all fun c => decide (c ∈ letters.cps.toList)) = _
        rw [decide_eq_false h1]
        rfl
      by_cases i1 : (1 : Int) ≤ x.length
      · have i2 : ¬ (x.length : Int) ≤ 8 := fun z => h1 ⟨by omega, by omega⟩
        simp [sRet, fAndV, fU, fVarV, isiV, tyD, asB, fB, fCh, cpF, bV, fAll, fCons, lenF_str hz, w, i1, i2]
      · simp [sRet, fAndV, fU, fVarV, isiV, tyD, asB, fB, fCh, cpF, bV, fAll, fCons, lenF_str hz, w, i1]
  | none => rfl
  | bool b => rfl
  | int i => rfl
  | list ds => rfl
  | tuple ds => rfl
  | dict l => unfold okD at h; cases h
theorem are_kinds_eq {d : PyData} {lo hi : Nat} (h : okD d = true) (hh : hi ≤ 1000) : F_are_kinds [.dat d, .dat (.int lo), .dat (.int hi)] S = .ok (.dat (.bool (kindsD lo hi d))) S := by
  show defF 4 3 B_are_kinds _ S = _
  rw [defF_eq (by rfl)]
  cases d with
  | tuple ds =>
    show (B_are_kinds [.fz (.dat (.tuple ds)), .fz (.dat (.int lo)), .fz (.dat (.int hi)), .no] S).out = _
    unfold B_are_kinds
    have oks : okAll ds = true := by unfold okD at h; exact h
    by_cases i1 : (lo : Int) ≤ ds.length
    · by_cases i2 : (ds.length : Int) ≤ hi
      · have w : kindsD lo hi (.tuple ds) = ds.all wordD := by
          show (decide (lo ≤ ds.length ∧ ds.length ≤ hi) && ds.all wordD) = _
          rw [decide_eq_true ⟨by omega, by omega⟩]
          rfl
        have lc : fLc (fIt (fVar 0)) (.one 3) [3] (fun _ S => .ok true S) (fCall F_is_word (fCons (fVar 3) fNil)) [.fz (.dat (.tuple ds)), .fz (.dat (.int lo)), .fz (.dat (.int hi)), .no] S = .ok (.dat (.list (ds.map fun d => .bool (wordD d)))) S := by
          refine lc_map (ds := ds) rfl _ (fun d m => ⟨_, rfl, ?_⟩) (by omega)
          show F_is_word [.dat d] S = _
          exact is_word_eq (okAll_mem oks d m)
        simp [sRet, fAndV, fU, fVarV, isiV, tyD, asB, fB, fCh, cpF, bV, fAll, fCons, lenF, lc, allF_map, w, i1, i2]
      · have w : kindsD lo hi (.tuple ds) = false := by
          show (decide (lo ≤ ds.length ∧ ds.length ≤ hi) && ds.all wordD) = _
          rw [decide_eq_false (fun z => i2 (by omega))]
          rfl
        simp [sRet, fAndV, fU, fVarV, isiV, tyD, asB, fB, fCh, cpF, bV, fAll, fCons, lenF, w, i1, i2]
    · have w : kindsD lo hi (.tuple ds) = false := by
        show (decide (lo ≤ ds.length ∧ ds.length ≤ hi) && ds.all wordD) = _
        rw [decide_eq_false (fun z => i1 (by omega))]
        rfl
      simp [sRet, fAndV, fU, fVarV, isiV, tyD, asB, fB, fCh, cpF, bV, fAll, fCons, lenF, w, i1]
  | none => rfl
  | bool b => rfl
  | int i => rfl
  | list ds => rfl
  | str x => rfl
  | dict l => unfold okD at h; cases h
/-! ### items -/
def gtP : Option Str → Str → Bool
  | none, _ => true
  | some p, a => decide (p.cps.toList < a.cps.toList)
/-- the name of a good item behind prev -/
def itemW (prev : Option Str) : PyData → Option Str
  | .tuple [.str a, b, c] => if (wordD (.str a) && wordD b && kindsD 0 4 c && gtP prev a) = true then some a else none
  | _ => none
def head0 : PyData → Option Str
  | .tuple (.str a :: _) => some a
  | _ => none
def PrevOk (items : List PyData) (k : Nat) : Option Str → Prop
  | none => k = 0
  | some p => 0 < k ∧ ∃ q, items[k - 1]? = some q ∧ head0 q = some p
theorem is_item_eq {items : List PyData} {k : Nat} {it : PyData} {prev : Option Str} (hk : items[k]? = some it) (ok : okD it = true) (hp : PrevOk items k prev) :
    F_is_item [.dat (.list items), .dat (.int k)] S = .ok (.dat (.bool (itemW prev it).isSome)) S := by
  show defF 3 2 B_is_item _ S = _
  rw [defF_eq (by rfl)]
  show (B_is_item [.fz (.dat (.list items)), .fz (.dat (.int k)), .no] S).out = _
  unfold B_is_item
  have at0 : atI items k = some it := atI_nat hk
  have first : (sSet 2 (fOpE idxV (fVarV 0) (fVarV 1))) [.fz (.dat (.list items)), .fz (.dat (.int k)), .no] S = .nx [.fz (.dat (.list items)), .fz (.dat (.int k)), .fz (.dat it)] S := by
    simp [sSet, fOpE, fVarV, idxV, at0]
  rw [sSeq, first, SOut.seq_nx]
  cases it with
  | tuple ds =>
    match ds, hk, at0, first, ok with
    | [a, b, c], hk, at0, first, ok =>
      have oks : okAll [a, b, c] = true := by unfold okD at ok; exact ok
      have oa := okAll_mem oks a (by simp)
      have ob := okAll_mem oks b (by simp)
      have oc := okAll_mem oks c (by simp)
      have p0 : atI [a, b, c] 0 = some a := rfl
      have p1 : atI [a, b, c] 1 = some b := rfl
      have p2 : atI [a, b, c] 2 = some c := rfl
      have wa := fun (S : Src) => is_word_eq (S := S) oa
      have wb := fun (S : Src) => is_word_eq (S := S) ob
      have wc : ∀ S : Src, F_are_kinds [.dat c, .dat (.int 0), .dat (.int 4)] S = .ok (.dat (.bool (kindsD 0 4 c))) S := fun S => are_kinds_eq (S := S) (lo := 0) (hi := 4) oc (by decide)
      by_cases ha : wordD a = true
      · obtain ⟨x, rfl⟩ : ∃ x, a = .str x := by
          cases a with
          | str x => exact ⟨x, rfl⟩
          | _ => cases ha
        have iw : itemW prev (.tuple [.str x, b, c]) = if (wordD (.str x) && wordD b && kindsD 0 4 c && gtP prev x) = true then some x else none := rfl
        rw [iw, ha]
        by_cases hb : wordD b = true
        · by_cases hc : kindsD 0 4 c = true
          · rw [hb, hc]
            cases prev with
            | none =>
              obtain rfl : k = 0 := hp
              simp [sSeq, sIf, fOr, fOrV, fNot, fAsB, fU, fVarV, isiV, tyD, asB, sRet, fCp, cpF, fAll, fCons, lenF, fCall, fOpE, idxV, p0, p1, p2, wa, wb, wc, ha, hb, hc, fB, bV, gtP]
            | some p =>
              obtain ⟨k0, q, hq, h0⟩ := hp
              obtain ⟨r, rfl⟩ : ∃ r, q = .tuple (.str p :: r) := by
                unfold head0 at h0
                split at h0
                · cases h0; exact ⟨_, rfl⟩
                · cases h0
              have kk : ((k : Int) - 1) = ((k - 1 : Nat) : Int) := by omega
              have at1 : atI items ((k : Int) - 1) = some (.tuple (.str p :: r)) := by rw [kk]; exact atI_nat hq
              have at2 : atI (PyData.str p :: r) 0 = some (.str p) := by
                refine atI_nat (j := 0) ?_
                rfl
              have kz : ¬ k = 0 := by omega
              by_cases lt : p.cps.toList < x.cps.toList
              · simp [sSeq, sIf, fOr, fOrV, fNot, fAsB, fU, fVarV, isiV, tyD, asB, sRet, fCp, cpF, fAll, fCons, lenF, fCall, fOpE, fOp, opF, subV, intV, idxV, at1, at2, p0, p1, p2, wa, wb, wc, ha, hb, hc, fB, bV, kz, lt, gtP]
              · simp [sSeq, sIf, fOr, fOrV, fNot, fAsB, fU, fVarV, isiV, tyD, asB, sRet, fCp, cpF, fAll, fCons, lenF, fCall, fOpE, fOp, opF, subV, intV, idxV, at1, at2, p0, p1, p2, wa, wb, wc, ha, hb, hc, fB, bV, kz, lt, gtP]
          · have hc : kindsD 0 4 c = false := by simpa using hc
            rw [hb, hc]
            simp [sSeq, sIf, fOr, fOrV, fNot, fAsB, fU, fVarV, isiV, tyD, asB, sRet, fCp, cpF, fAll, fCons, lenF, fCall, fOpE, idxV, p0, p1, p2, wa, wb, wc, ha, hb, hc]
        · have hb : wordD b = false := by simpa using hb
          rw [hb]
          simp [sSeq, sIf, fOr, fOrV, fNot, fAsB, fU, fVarV, isiV, tyD, asB, sRet, fCp, cpF, fAll, fCons, lenF, fCall, fOpE, idxV, p0, p1, p2, wa, wb, wc, ha, hb]
      · have ha : wordD a = false := by simpa using ha
        have iw : itemW prev (.tuple [a, b, c]) = none := by
          cases a with
          | str x =>
            show (if (wordD (.str x) && wordD b && kindsD 0 4 c && _) = true then some x else none) = none
            rw [ha]
            rfl
          | _ => rfl
        rw [iw]
        simp [sSeq, sIf, fOr, fOrV, fNot, fAsB, fU, fVarV, isiV, tyD, asB, sRet, fCp, cpF, fAll, fCons, lenF, fCall, fOpE, idxV, p0, p1, p2, wa, ha]
    | [], _, _, _, _ => rfl
    | [a], _, _, _, _ => cases a <;> rfl
    | [a, b], _, _, _, _ => cases a <;> rfl
    | a :: b :: c :: d :: r, _, _, _, _ =>
      have iw : itemW prev (.tuple (a :: b :: c :: d :: r)) = none := by cases a <;> rfl
      have ln : ¬ ((r.length : Int) + 1 + 1 + 1 + 1 = 3) := by omega
      rw [iw]
      simp [sSeq, sIf, fOr, fOrV, fNot, fAsB, fU, fVarV, isiV, tyD, asB, sRet, fCp, cpF, fAll, fCons, lenF, ln]
  | none => rfl
  | bool b => rfl
  | int i => rfl
  | list ds => rfl
  | str x => rfl
  | dict l => unfold okD at ok; cases ok
end
end K02

namespace K02
open PySem PySem.Spec PyProof.Rows L2 L2.HL
section
variable {S : Src}
/-- the first bad item -/
def errItems : Option Str → Nat → List PyData → Option Nat
  | _, _, [] => none
  | prev, k, it :: r => match itemW prev it with
    | some a => errItems (some a) (k + 1) r
    | none => some k
theorem itemW_head {prev : Option Str} {it : PyData} {a : Str} (h : itemW prev it = some a) : head0 it = some a := by
  unfold itemW at h
  split at h
  · split at h
    · cases h; rfl
    · cases h
  · cases h
theorem rngFrom_succ (k m : Nat) : rngFrom k (m + 1) = .int k :: rngFrom (k + 1) m := rfl
/-- the items are asked, one after the other -/
theorem items_loop {v r : Vl} {items : List PyData} (oks : okAll items = true) : ∀ (m k : Nat) (prev : Option Str) (s3 : Sl), k + m = items.length → PrevOk items k prev →
    ∃ s3', sForL (.one 3) (sIf (fNot (fAsB (fCall F_is_item (fCons (fVar 2) (fCons (fVar 3) fNil))))) (sRet (fAll tupF (fCons (fC (.str "item")) (fCons (fVar 3) fNil)))) .nx) (rngFrom k m) [.fz v, .fz r, .fz (.dat (.list items)), s3] S =
      match errItems prev k (items.drop k) with
      | some j => .rt (.dat (.tuple [.str "item", .int j])) S
      | none => .nx [.fz v, .fz r, .fz (.dat (.list items)), s3'] S
  | 0, k, prev, s3, hk, hp => by
    rw [List.drop_eq_nil_of_le (by omega)]
    exact ⟨s3, rfl⟩
  | m + 1, k, prev, s3, hk, hp => by
    have lt : k < items.length := by omega
    have at0 : items[k]? = some items[k] := List.getElem?_eq_getElem lt
    have q := is_item_eq (S := S) at0 (okAll_mem oks _ (List.getElem_mem lt)) hp
    rw [rngFrom_succ, List.drop_eq_getElem_cons lt]
    cases hw : itemW prev items[k] with
    | none =>
      rw [hw] at q
      refine ⟨s3, ?_⟩
      rw [sForL_rt (x := .dat (.tuple [.str "item", .int k])) (S' := S) rfl (by simp [sIf, fNot, fAsB, fCall, fCons, fVar, q, asB, sRet, fAll, tupF, datsOf])]
      unfold errItems
      rw [hw]
    | some a =>
      rw [hw] at q
      obtain ⟨s3', ih⟩ := items_loop oks m (k + 1) (some a) (.fz (.dat (.int k))) (by omega) ⟨by omega, items[k], at0, itemW_head hw⟩
      refine ⟨s3', ?_⟩
      rw [sForL_nx (ρ' := [.fz v, .fz r, .fz (.dat (.list items)), .fz (.dat (.int k))]) (S' := S) rfl (by simp [sIf, fNot, fAsB, fCall, fCons, fVar, q, asB, sRet, fAll, tupF, datsOf]), ih]
      rw [errItems]
      rw [hw]
/-! ### the kinds of an inventory -/
/-- the kinds of good items, flat -/
def txts : List PyData → List Str
  | .str x :: r => x :: txts r
  | _ => []
def kindsItems : List PyData → List Str
  | .tuple [_, .str b, .tuple c] :: r => b :: (txts c ++ kindsItems r)
  | _ => []
theorem txts_of : ∀ {ds : List PyData}, ds.all wordD = true → ds = (txts ds).map .str
  | [], _ => rfl
  | d :: ds, h => by
    rw [List.all_cons, Bool.and_eq_true] at h
    cases d with
    | str x =>
      show _ = PyData.str x :: (txts ds).map .str
      rw [← txts_of h.2]
    | _ => cases h.1
theorem itemW_shape {prev : Option Str} {it : PyData} {a : Str} (h : itemW prev it = some a) : ∃ b c, it = .tuple [.str a, .str b, .tuple c] ∧ c.all wordD = true ∧ c.length ≤ 4 ∧ wordD (.str a) = true ∧ wordD (.str b) = true ∧ gtP prev a = true := by
  unfold itemW at h
  split at h
  · rename_i x b c
    by_cases e : (wordD (.str x) && wordD b && kindsD 0 4 c && gtP prev x) = true
    · rw [if_pos e] at h
      cases h
      simp only [Bool.and_eq_true] at e
      obtain ⟨⟨⟨h1, h2⟩, h3⟩, h4⟩ := e
      cases b with
      | str b =>
        cases c with
        | tuple c =>
          have h3 : (decide (0 ≤ c.length ∧ c.length ≤ 4) && c.all wordD) = true := h3
          rw [Bool.and_eq_true] at h3
          exact ⟨b, c, rfl, h3.2, (of_decide_eq_true h3.1).2, h1, h2, h4⟩
        | _ => cases h3
      | _ => cases h2
    · rw [if_neg e] at h; cases h
  · cases h
end
end K02

namespace K02
open PySem PySem.Spec PyProof.Rows L2 L2.HL
section
variable {S : Src}
theorem addV_ll {xs ys : List PyData} (h : xs.length + ys.length ≤ 16777216) : addV (.dat (.list xs)) (.dat (.list ys)) = some (.dat (.list (xs ++ ys))) := if_pos h
/-- good items, from prev on -/
def Good (prev : Option Str) : List PyData → Prop
  | [] => True
  | it :: r => ∃ a, itemW prev it = some a ∧ Good (some a) r
theorem good_of : ∀ {items : List PyData} {prev : Option Str} {k : Nat}, errItems prev k items = none → Good prev items
  | [], _, _, _ => trivial
  | it :: r, prev, k, h => by
    rw [errItems] at h
    cases e : itemW prev it with
    | none => rw [e] at h; cases h
    | some a => rw [e] at h; exact ⟨a, e, good_of h⟩
theorem kinds_len : ∀ {items : List PyData} {prev : Option Str}, Good prev items → (kindsItems items).length ≤ 5 * items.length
  | [], _, _ => Nat.zero_le _
  | it :: r, prev, ⟨a, h, g⟩ => by
    obtain ⟨b, c, rfl, hc, hl, _⟩ := itemW_shape h
    have ih := kinds_len g
    have e : (kindsItems (.tuple [.str a, .str b, .tuple c] :: r)).length = 1 + ((txts c).length + (kindsItems r).length) := by
      show (b :: (txts c ++ kindsItems r)).length = _
      simp
      omega
    have el : (txts c).length = c.length := by
      have := congrArg List.length (txts_of hc)
      rw [List.length_map] at this
      exact this.symm
    rw [e, el, List.length_cons]
    omega
theorem kinds_loop {v : Vl} : ∀ {items : List PyData} {prev : Option Str} (ks : List Str) (s2 s3 s4 : Sl), Good prev items → ks.length + 5 * items.length ≤ 1000000 →
    ∃ t2 t3 t4, sForL (.many [2, 3, 4]) (sSet 1 (fOp addV (fOp addV (fVarV 1) (fAll lstF (fCons (fVar 3) fNil))) (fAll listF2 (fCons (fVarV 4) fNil)))) items [.fz v, .fz (.dat (.list (ks.map .str))), s2, s3, s4] S = .nx [.fz v, .fz (.dat (.list ((ks ++ kindsItems items).map .str))), t2, t3, t4] S
  | [], _, ks, s2, s3, s4, _, _ => ⟨s2, s3, s4, by rw [sForL_nil]; simp [kindsItems]⟩
  | it :: r, prev, ks, s2, s3, s4, ⟨a, h, g⟩, hl => by
    obtain ⟨b, c, rfl, hc, hl4, _⟩ := itemW_shape h
    rw [List.length_cons] at hl
    have el : (txts c).length = c.length := by
      have := congrArg List.length (txts_of hc)
      rw [List.length_map] at this
      exact this.symm
    obtain ⟨t2, t3, t4, ih⟩ := kinds_loop (v := v) (ks ++ [b] ++ txts c) (.fz (.dat (.str a))) (.fz (.dat (.str b))) (.fz (.dat (.tuple c))) g (by simp; omega)
    refine ⟨t2, t3, t4, ?_⟩
    have a1 : addV (.dat (.list (ks.map .str))) (.dat (.list [.str b])) = some (.dat (.list (ks.map .str ++ [.str b]))) := addV_ll (by simp; omega)
    have a2 : addV (.dat (.list (ks.map .str ++ [.str b]))) (.dat (.list c)) = some (.dat (.list (ks.map .str ++ [.str b] ++ c))) := addV_ll (by simp; omega)
    rw [sForL_nx (ρ1 := [.fz v, .fz (.dat (.list (ks.map .str))), .fz (.dat (.str a)), .fz (.dat (.str b)), .fz (.dat (.tuple c))]) (ρ' := [.fz v, .fz (.dat (.list (ks.map .str ++ [.str b] ++ c))), .fz (.dat (.str a)), .fz (.dat (.str b)), .fz (.dat (.tuple c))]) (S' := S) rfl
      (by simp [sSet, fOp, fVarV, fVar, fAll, fCons, lstF, datsOf, listF2, listF, opF, a1, a2])]
    have e1 : ks.map PyData.str ++ [.str b] ++ c = (ks ++ [b] ++ txts c).map .str := by
      rw [List.map_append, List.map_append, ← txts_of hc]
      rfl
    rw [e1, ih]
    have e2 : ks ++ [b] ++ txts c ++ kindsItems r = ks ++ kindsItems (.tuple [.str a, .str b, .tuple c] :: r) := by
      show _ = ks ++ (b :: (txts c ++ kindsItems r))
      simp
    rw [e2]
/-! ### sorted(set(texts)) -/
theorem flatKs_strs : ∀ ks : List Str, flatKs (ks.map .str) = some (ks.map Sum.inr)
  | [] => rfl
  | k :: ks => by
    show flatKs (.str k :: ks.map .str) = _
    unfold flatKs
    rw [flatKs_strs ks]
    rfl
theorem alikeB_strs (ks : List Str) : alikeB (ks.map .str) = true := by
  unfold alikeB
  rw [List.all_eq_true]
  intro d hd
  rw [List.all_eq_true]
  intro e he
  obtain ⟨x, _, rfl⟩ := List.mem_map.mp hd
  obtain ⟨y, _, rfl⟩ := List.mem_map.mp he
  rfl
theorem depth_strs : ∀ ks : List Str, PyData.depthAll (ks.map .str) = 0
  | [] => rfl
  | k :: ks => by
    show PyData.depthAll (.str k :: ks.map .str) = 0
    rw [PyData.depthAll, depth_strs ks]
    rfl
theorem sortOk_strs (ks : List Str) : sortOk (ks.map .str) = true := by
  unfold sortOk
  rw [alikeB_strs, depth_strs]
  have : (ks.map PyData.str).all isFlatS = true := by
    rw [List.all_eq_true]
    intro d hd
    obtain ⟨x, _, rfl⟩ := List.mem_map.mp hd
    rfl
  rw [this]
  simp
/-- distinct texts -/
def dedupS : List Str → List Str
  | [] => []
  | k :: ks => if k ∈ dedupS ks then dedupS ks else k :: dedupS ks
theorem dedupK_strs : ∀ ks : List Str, ∃ ls : List Str, dedupK (ks.map Sum.inr) = ls.map Sum.inr
  | [] => ⟨[], rfl⟩
  | k :: ks => by
    obtain ⟨ls, h⟩ := dedupK_strs ks
    show ∃ ms : List Str, dedupK (Sum.inr k :: ks.map Sum.inr) = ms.map Sum.inr
    unfold dedupK
    rw [h]
    split
    · exact ⟨ls, rfl⟩
    · exact ⟨k :: ls, rfl⟩
/-- how many distinct ones -/
def manyK (ks : List Str) : Nat := (dedupK (ks.map Sum.inr)).length
theorem setKs_strs {ks : List Str} (h : ks.length ≤ 1000) : setKs (.dat (.list (ks.map .str))) = some (ks.map Sum.inr) := by
  show (match flatKs (ks.map .str) with | some ks => (if ks.length + 1 < scanBound then some ks else none) | none => none) = _
  rw [flatKs_strs]
  exact if_pos (by rw [List.length_map]; unfold scanBound; omega)
theorem sortSet_strs {ks : List Str} (h : ks.length ≤ 1000) : ∃ ls : List Str, sortSetV (.dat (.list (ks.map .str))) = some (.dat (.list (ls.map .str))) ∧ ls.length = manyK ks := by
  obtain ⟨ls, e⟩ := dedupK_strs ks
  have ek : (ls.map Sum.inr).map keyD = ls.map PyData.str := by rw [List.map_map]; rfl
  unfold sortSetV
  rw [setKs_strs h]
  dsimp only
  rw [e, ek, if_pos (sortOk_strs ls)]
  have perm : (sortP (ls.map .str)).Perm (ls.map .str) := List.mergeSort_perm _ _
  obtain ⟨ms, pm, em⟩ := perm_map_inv perm
  refine ⟨ms, by rw [em], ?_⟩
  unfold manyK
  rw [e, List.length_map, pm.length_eq]
theorem lenSet_strs {ks : List Str} (h : ks.length ≤ 1000) : lenSetV (.dat (.list (ks.map .str))) = some (.dat (.int (manyK ks : Nat))) := by
  unfold lenSetV
  rw [setKs_strs h]
  rfl
/-! ### inventory_error -/
def errN (rs items : List PyData) : PyData := match errItems none 0 items with
  | some k => .tuple [.str "item", .int k]
  | none => if 6 < manyK (txts rs ++ kindsItems items) then .tuple [.str "kinds"] else .none
def errI (rs : List PyData) : PyData → PyData
  | .list items => if 1 ≤ items.length ∧ items.length ≤ 24 then errN rs items else .tuple [.str "items"]
  | _ => .tuple [.str "items"]
def errR : PyData → PyData → PyData
  | .tuple rs, i => if kindsD 1 4 (.tuple rs) = true then errI rs i else .tuple [.str "roots"]
  | _, _ => .tuple [.str "roots"]
def errD : PyData → PyData
  | .tuple [r, i] => errR r i
  | _ => .tuple [.str "inventory"]
theorem all_kinds_eq {rs items : List PyData} (hr : rs.all wordD = true) (h4 : rs.length ≤ 4) (h24 : items.length ≤ 24) (g : Good none items) : ∃ ls : List Str, F_all_kinds [.dat (.tuple [.tuple rs, .list items])] S = .ok (.dat (.list (ls.map .str))) S ∧ ls.length = manyK (txts rs ++ kindsItems items) := by
  have el : (txts rs).length = rs.length := by
    have := congrArg List.length (txts_of hr)
    rw [List.length_map] at this
    exact this.symm
  have kl := kinds_len g
  obtain ⟨ls, e1, e2⟩ := sortSet_strs (ks := txts rs ++ kindsItems items) (by rw [List.length_append]; omega)
  refine ⟨ls, ?_, e2⟩
  show defF 5 1 B_all_kinds _ S = _
  rw [defF_eq (by rfl)]
  show (B_all_kinds [.fz (.dat (.tuple [.tuple rs, .list items])), .no, .no, .no, .no] S).out = _
  unfold B_all_kinds
  have p0 : atI [PyData.tuple rs, .list items] 0 = some (.tuple rs) := rfl
  have p1 : atI [PyData.tuple rs, .list items] 1 = some (.list items) := rfl
  have first : sSet 1 (fAll listF2 (fCons (fOpE idxV (fVarV 0) (fC (.int 0))) fNil)) [.fz (.dat (.tuple [.tuple rs, .list items])), .no, .no, .no, .no] S = .nx [.fz (.dat (.tuple [.tuple rs, .list items])), .fz (.dat (.list ((txts rs).map .str))), .no, .no, .no] S := by
    simp [sSet, fAll, fCons, fOpE, fVarV, idxV, p0, listF2, listF, ← txts_of hr]
  obtain ⟨t2, t3, t4, loop⟩ := kinds_loop (S := S) (v := .dat (.tuple [.tuple rs, .list items])) (txts rs) .no .no .no g (by omega)
  have walk : fIt (fOpE idxV (fVarV 0) (fC (.int 1))) [.fz (.dat (.tuple [.tuple rs, .list items])), .fz (.dat (.list ((txts rs).map .str))), .no, .no, .no] S = .ok items S := by
    simp [fIt, fOpE, fVarV, idxV, p1, itV]
  rw [sSeq, first, SOut.seq_nx, sSeq, sFor_eq walk, loop, SOut.seq_nx]
  rw [List.map_append] at e1
  simp [sRet, fU, fVarV, e1]
end
end K02

namespace K02
open PySem PySem.Spec PyProof.Rows L2 L2.HL
section
variable {S : Src}
theorem inv_two {r i : PyData} (ok : okD (.tuple [r, i]) = true) : (B_inventory_error [.fz (.dat (.tuple [r, i])), .no, .no, .no] S).out = .ok (.dat (errD (.tuple [r, i]))) S := by
  have oks : okAll [r, i] = true := by unfold okD at ok; exact ok
  have okr := okAll_mem oks r (by simp)
  have oki := okAll_mem oks i (by simp)
  have wr : ∀ S : Src, F_are_kinds [.dat r, .dat (.int 1), .dat (.int 4)] S = .ok (.dat (.bool (kindsD 1 4 r))) S := fun S => are_kinds_eq (S := S) (lo := 1) (hi := 4) okr (by decide)
  unfold B_inventory_error
  by_cases hr : kindsD 1 4 r = true
  · obtain ⟨rs, rfl, rw', r4⟩ : ∃ rs, r = .tuple rs ∧ rs.all wordD = true ∧ rs.length ≤ 4 := by
      cases r with
      | tuple rs =>
        have h3 : (decide (1 ≤ rs.length ∧ rs.length ≤ 4) && rs.all wordD) = true := hr
        rw [Bool.and_eq_true] at h3
        exact ⟨rs, rfl, h3.2, (of_decide_eq_true h3.1).2⟩
      | _ => cases hr
    cases i with
    | list items =>
      by_cases i1 : 1 ≤ items.length
      · by_cases i2 : items.length ≤ 24
        · have j1 : (1 : Int) ≤ items.length := by omega
          have j2 : (items.length : Int) ≤ 24 := by omega
          have oi : okAll items = true := by unfold okD at oki; exact oki
          obtain ⟨s3, loop⟩ := items_loop (S := S) (v := .dat (.tuple [.tuple rs, .list items])) (r := .dat (.tuple rs)) oi items.length 0 none .no (by omega) rfl
          have rng : fRng1 (fCons (fAll lenF (fCons (fVarV 2) fNil)) fNil) [.fz (.dat (.tuple [.tuple rs, .list items])), .fz (.dat (.tuple rs)), .fz (.dat (.list items)), .no] S = .ok (rngFrom 0 items.length) S := by
            refine rng1_eq ?_ (Nat.le_trans i2 (by decide))
            rfl
          rw [List.drop_zero] at loop
          have pre : ∀ f : SF, (sSeq (sIf (fOr (fNot (fAsB (fU (isiV "tuple") (fVarV 0)))) (fCp neD (fAll lenF (fCons (fVarV 0) fNil)) (fC (.int 2)))) (sRet (fAll tupF (fCons (fC (.str "inventory")) fNil))) .nx)
(sSeq (sUnp (.many [1, 2]) (fVar 0))
(sSeq (sIf (fNot (fAsB (fCall F_are_kinds (fCons (fVar 1) (fCons (fC (.int 1)) (fCons (fC (.int 4)) fNil)))))) (sRet (fAll tupF (fCons (fC (.str "roots")) fNil))) .nx)
(sSeq (sIf (fOr (fNot (fAsB (fU (isiV "list") (fVarV 2)))) (fNot (fCh leD leD (fC (.int 1)) (fAll lenF (fCons (fVarV 2) fNil)) (fC (.int 24))))) (sRet (fAll tupF (fCons (fC (.str "items")) fNil))) .nx) f)))) [.fz (.dat (.tuple [.tuple rs, .list items])), .no, .no, .no] S = f [.fz (.dat (.tuple [.tuple rs, .list items])), .fz (.dat (.tuple rs)), .fz (.dat (.list items)), .no] S := fun f => by
            simp [sSeq, sIf, fOr, fNot, fAsB, fU, fVarV, fVar, isiV, tyD, asB, sRet, fCp, cpF, fAll, fCons, lenF, sUnp, bindT, setMany, fCall, wr, hr, fCh, j1, j2]
          rw [pre, sSeq, sFor_eq rng, loop]
          have ed : errD (.tuple [.tuple rs, .list items]) = errN rs items := by
            show (if kindsD 1 4 (.tuple rs) = true then (if 1 ≤ items.length ∧ items.length ≤ 24 then errN rs items else _) else _) = _
            rw [if_pos hr]
            exact if_pos ⟨i1, i2⟩
          rw [ed]
          unfold errN
          cases he : errItems none 0 items with
          | some k => rfl
          | none =>
            obtain ⟨ls, e1, e2⟩ := all_kinds_eq (S := S) rw' r4 i2 (good_of he)
            dsimp only
            rw [SOut.seq_nx]
            by_cases many : 6 < manyK (txts rs ++ kindsItems items)
            · have m1 : (6 : Int) < ls.length := by omega
              simp [sRet, fIf, fCp, cpF, fAll, fCons, fCall, fVar, e1, lenF, m1, many, tupF, datsOf]
            · have m1 : ¬ (6 : Int) < ls.length := by omega
              simp [sRet, fIf, fCp, cpF, fAll, fCons, fCall, fVar, e1, lenF, m1, many, tupF, datsOf]
        · have j1 : (1 : Int) ≤ items.length := by omega
          have j2 : ¬ (items.length : Int) ≤ 24 := by omega
          have ed : errD (.tuple [.tuple rs, .list items]) = .tuple [.str "items"] := by
            show (if kindsD 1 4 (.tuple rs) = true then (if 1 ≤ items.length ∧ items.length ≤ 24 then _ else _) else _) = _
            rw [if_pos hr]
            exact if_neg fun z => i2 z.2
          rw [ed]
          simp [sSeq, sIf, fOr, fNot, fAsB, fU, fVarV, fVar, isiV, tyD, asB, sRet, fCp, cpF, fAll, fCons, lenF, sUnp, bindT, setMany, fCall, wr, hr, fCh, j1, j2, tupF, datsOf]
      · have j1 : ¬ (1 : Int) ≤ items.length := by omega
        have ed : errD (.tuple [.tuple rs, .list items]) = .tuple [.str "items"] := by
          show (if kindsD 1 4 (.tuple rs) = true then (if 1 ≤ items.length ∧ items.length ≤ 24 then _ else _) else _) = _
          rw [if_pos hr]
          exact if_neg fun z => i1 z.1
        rw [ed]
        simp [sSeq, sIf, fOr, fNot, fAsB, fU, fVarV, fVar, isiV, tyD, asB, sRet, fCp, cpF, fAll, fCons, lenF, sUnp, bindT, setMany, fCall, wr, hr, fCh, j1, tupF, datsOf]
    | _ =>
      have ed : ∀ i, errI rs i = .tuple [.str "items"] → errD (.tuple [.tuple rs, i]) = .tuple [.str "items"] := fun i h => by
        show (if kindsD 1 4 (.tuple rs) = true then errI rs i else _) = _
        rw [if_pos hr, h]
      rw [ed _ rfl]
      simp [sSeq, sIf, fOr, fNot, fAsB, fU, fVarV, fVar, isiV, tyD, asB, sRet, fCp, cpF, fAll, fCons, lenF, sUnp, bindT, setMany, fCall, wr, hr, tupF, datsOf]
  · have hr : kindsD 1 4 r = false := by simpa using hr
    have ed : errD (.tuple [r, i]) = .tuple [.str "roots"] := by
      show errR r i = _
      unfold errR
      split
      · exact if_neg (by rw [hr]; exact Bool.false_ne_true)
      · rfl
    rw [ed]
    simp [sSeq, sIf, fOr, fNot, fAsB, fU, fVarV, fVar, isiV, tyD, asB, sRet, fCp, cpF, fAll, fCons, lenF, sUnp, bindT, setMany, fCall, wr, hr, tupF, datsOf]
theorem inv_not {d : PyData} (h : ∀ ds, d ≠ .tuple ds) (hd : ∀ l, d ≠ .dict l) : (B_inventory_error [.fz (.dat d), .no, .no, .no] S).out = .ok (.dat (errD d)) S := by
  unfold B_inventory_error
  cases d with
  | tuple ds => exact absurd rfl (h ds)
  | none => simp [sSeq, sIf, fOr, fNot, fAsB, fU, fVarV, isiV, tyD, asB, sRet, fAll, fCons, tupF, datsOf, errD]
  | bool b => simp [sSeq, sIf, fOr, fNot, fAsB, fU, fVarV, isiV, tyD, asB, sRet, fAll, fCons, tupF, datsOf, errD]
  | int b => simp [sSeq, sIf, fOr, fNot, fAsB, fU, fVarV, isiV, tyD, asB, sRet, fAll, fCons, tupF, datsOf, errD]
  | str b => simp [sSeq, sIf, fOr, fNot, fAsB, fU, fVarV, isiV, tyD, asB, sRet, fAll, fCons, tupF, datsOf, errD]
  | list b => simp [sSeq, sIf, fOr, fNot, fAsB, fU, fVarV, isiV, tyD, asB, sRet, fAll, fCons, tupF, datsOf, errD]
  | dict b => exact absurd rfl (hd b)
theorem inv_len {ds : List PyData} (h : ∀ r i, ds ≠ [r, i]) : (B_inventory_error [.fz (.dat (.tuple ds)), .no, .no, .no] S).out = .ok (.dat (errD (.tuple ds))) S := by
  have e : errD (.tuple ds) = .tuple [.str "inventory"] := by
    unfold errD
    split
    · rename_i r i e
      cases e
      exact absurd rfl (h r i)
    · rfl
  have ln : ¬ ((ds.length : Int) = 2) := fun z => by
    match ds, z with
    | [r, i], _ => exact h r i rfl
    | [], z => simp at z
    | [a], z => simp at z
    | a :: b :: c :: r, z => simp at z; omega
  rw [e]
  unfold B_inventory_error
  simp [sSeq, sIf, fOr, fNot, fAsB, fU, fVarV, isiV, tyD, asB, sRet, fCp, cpF, fAll, fCons, lenF, ln, tupF, datsOf]
theorem inventory_error_eq {d : PyData} (ok : okD d = true) : F_inventory_error [.dat d] S = .ok (.dat (errD d)) S := by
  show defF 4 1 B_inventory_error _ S = _
  rw [defF_eq (by rfl)]
  show (B_inventory_error [.fz (.dat d), .no, .no, .no] S).out = _
  cases d with
  | tuple ds =>
    by_cases h : ∃ r i, ds = [r, i]
    · obtain ⟨r, i, rfl⟩ := h
      exact inv_two ok
    · exact inv_len fun r i e => h ⟨r, i, e⟩
  | dict l => unfold okD at ok; cases ok
  | _ => exact inv_not (fun _ z => nomatch z) fun _ z => nomatch z
end
end K02

/-! loops, comprehensions and dicts by what every turn keeps -/
namespace L2.HL
open PySem PySem.Spec PyProof.Rows
section
variable {t : Tgt} {f : SF} {vs : List Nat} {c : BF} {u uk uv : EF} {kd : Bool}
theorem sForL_inv {I : Nat → En → Src → Prop} : ∀ {ds : List PyData} {i : Nat} {ρ : En} {S : Src}, (∀ j d ρ S, ds[j]? = some d → I (i + j) ρ S → ∃ ρ1 ρ' S', bindT t (.dat d) ρ = some ρ1 ∧ f ρ1 S = .nx ρ' S' ∧ I (i + j + 1) ρ' S') → I i ρ S → ∃ ρ' S', sForL t f ds ρ S = .nx ρ' S' ∧ I (i + ds.length) ρ' S'
  | [], i, ρ, S, _, h => ⟨ρ, S, rfl, h⟩
  | d :: ds, i, ρ, S, step, h => by
    obtain ⟨ρ1, ρ', S', e1, e2, h'⟩ := step 0 d ρ S rfl h
    obtain ⟨ρ2, S2, e3, h2⟩ := sForL_inv (I := I) (ds := ds) (i := i + 1) (ρ := ρ') (S := S') (fun j d ρ S e hj => by
      obtain ⟨r1, r2, s2, a, b, k⟩ := step (j + 1) d ρ S (by rw [List.getElem?_cons_succ]; exact e) (by rw [show i + (j + 1) = i + 1 + j by omega]; exact hj)
      exact ⟨r1, r2, s2, a, b, by rw [show i + 1 + j + 1 = i + (j + 1) + 1 by omega]; exact k⟩) h'
    refine ⟨ρ2, S2, ?_, by rw [List.length_cons, show i + (ds.length + 1) = i + 1 + ds.length by omega]; exact h2⟩
    rw [sForL_nx e1 e2, e3]
theorem sFor_inv {lf : LF} {ds : List PyData} {ρ : En} {S S1 : Src} (I : Nat → En → Src → Prop) (hl : lf ρ S = .ok ds S1) (step : ∀ j d ρ S, ds[j]? = some d → I j ρ S → ∃ ρ1 ρ' S', bindT t (.dat d) ρ = some ρ1 ∧ f ρ1 S = .nx ρ' S' ∧ I (j + 1) ρ' S') (h : I 0 ρ S1) :
    ∃ ρ' S', sFor lf t f ρ S = .nx ρ' S' ∧ I ds.length ρ' S' := by
  rw [sFor_eq hl]
  have := sForL_inv (t := t) (f := f) (I := I) (ds := ds) (i := 0) (ρ := ρ) (S := S1) (fun j d ρ S e hj => by
    rw [Nat.zero_add] at hj ⊢
    exact step j d ρ S e hj) h
  rw [Nat.zero_add] at this
  exact this
theorem lcL_inv {I : Nat → List PyData → Src → Prop} {ρ : En} : ∀ {ds : List PyData} {i : Nat} {acc : List PyData} {S : Src}, (∀ j d acc S, ds[j]? = some d → I (i + j) acc S → ∃ ρ1 b S1, bindT t (.dat d) (wipeE ρ vs) = some ρ1 ∧ c ρ1 S = .ok b S1 ∧ (b = false → I (i + j + 1) acc S1) ∧ (b = true → ∃ y S2, u ρ1 S1 = .ok (.dat y) S2 ∧ I (i + j + 1) (acc ++ [y]) S2)) → acc.length + ds.length ≤ 16000000 → I i acc S →
    ∃ ys S', lcL t vs c u ds acc ρ S = .ok ys S' ∧ I (i + ds.length) ys S'
  | [], i, acc, S, _, _, h => ⟨acc, S, rfl, h⟩
  | d :: ds, i, acc, S, step, hl, h => by
    obtain ⟨ρ1, b, S1, e1, e2, hf, ht⟩ := step 0 d acc S rfl h
    have next := fun (acc' : List PyData) (S' : Src) (hl' : acc'.length + ds.length ≤ 16000000) (h' : I (i + 1) acc' S') => lcL_inv (I := I) (ρ := ρ) (ds := ds) (i := i + 1) (acc := acc') (S := S') (fun j d acc S e hj => by
      obtain ⟨r1, b, s1, a1, a2, a3, a4⟩ := step (j + 1) d acc S (by rw [List.getElem?_cons_succ]; exact e) (by rw [show i + (j + 1) = i + 1 + j by omega]; exact hj)
      rw [show i + (j + 1) + 1 = i + 1 + j + 1 by omega] at a3 a4
      exact ⟨r1, b, s1, a1, a2, a3, a4⟩) hl' h'
    rw [List.length_cons] at hl
    rw [List.length_cons, show i + (ds.length + 1) = i + 1 + ds.length by omega]
    unfold lcL
    rw [e1]
    dsimp only
    rw [e2]
    cases b with
    | false => exact next acc S1 (by omega) (hf rfl)
    | true =>
      obtain ⟨y, S2, e3, h3⟩ := ht rfl
      dsimp only
      rw [e3]
      dsimp only
      rw [if_pos (by omega)]
      exact next _ S2 (by simp; omega) h3
theorem lc_inv {lf : LF} {ds : List PyData} {ρ : En} {S S1 : Src} (I : Nat → List PyData → Src → Prop) (hl : lf ρ S = .ok ds S1) (step : ∀ j d acc S, ds[j]? = some d → I j acc S → ∃ ρ1 b S1, bindT t (.dat d) (wipeE ρ vs) = some ρ1 ∧ c ρ1 S = .ok b S1 ∧ (b = false → I (j + 1) acc S1) ∧ (b = true → ∃ y S2, u ρ1 S1 = .ok (.dat y) S2 ∧ I (j + 1) (acc ++ [y]) S2)) (hn : ds.length ≤ 16000000) (h : I 0 [] S1) :
    ∃ ys S', fLc lf t vs c u ρ S = .ok (.dat (.list ys)) S' ∧ I ds.length ys S' := by
  obtain ⟨ys, S', e, h'⟩ := lcL_inv (t := t) (vs := vs) (c := c) (u := u) (I := I) (ρ := ρ) (ds := ds) (i := 0) (acc := []) (S := S1) (fun j d acc S e hj => by
    rw [Nat.zero_add] at hj ⊢
    exact step j d acc S e hj) (by simpa using hn) h
  rw [Nat.zero_add] at h'
  refine ⟨ys, S', ?_, h'⟩
  unfold fLc
  rw [hl, Out.bind_ok, e]
  rfl
theorem dcL_inv {I : Nat → List (PyData × PyData) → Src → Prop} {ρ : En} : ∀ {ds : List PyData} {i : Nat} {acc : List (PyData × PyData)} {S : Src}, (∀ j d acc S, ds[j]? = some d → I (i + j) acc S → ∃ ρ1 b S1, bindT t (.dat d) (wipeE ρ vs) = some ρ1 ∧ c ρ1 S = .ok b S1 ∧ (b = false → I (i + j + 1) acc S1) ∧ (b = true → ∃ k y S2 S3, uk ρ1 S1 = .ok (.dat k) S2 ∧ uv ρ1 S2 = .ok (.dat y) S3 ∧ kOk kd k = true ∧ acc.length < 16000000 ∧ I (i + j + 1) (putP acc k y) S3)) → I i acc S →
    ∃ ys S', dcL kd t vs c uk uv ds acc ρ S = .ok ys S' ∧ I (i + ds.length) ys S'
  | [], i, acc, S, _, h => ⟨acc, S, rfl, h⟩
  | d :: ds, i, acc, S, step, h => by
    obtain ⟨ρ1, b, S1, e1, e2, hf, ht⟩ := step 0 d acc S rfl h
    have next := fun (acc' : List (PyData × PyData)) (S' : Src) (h' : I (i + 1) acc' S') => dcL_inv (I := I) (ρ := ρ) (ds := ds) (i := i + 1) (acc := acc') (S := S') (fun j d acc S e hj => by
      obtain ⟨r1, b, s1, a1, a2, a3, a4⟩ := step (j + 1) d acc S (by rw [List.getElem?_cons_succ]; exact e) (by rw [show i + (j + 1) = i + 1 + j by omega]; exact hj)
      rw [show i + (j + 1) + 1 = i + 1 + j + 1 by omega] at a3 a4
      exact ⟨r1, b, s1, a1, a2, a3, a4⟩) h'
    rw [List.length_cons, show i + (ds.length + 1) = i + 1 + ds.length by omega]
    unfold dcL
    rw [e1]
    dsimp only
    rw [e2]
    cases b with
    | false => exact next acc S1 (hf rfl)
    | true =>
      obtain ⟨k, y, S2, S3, e3, e4, ok, lt, h3⟩ := ht rfl
      dsimp only
      rw [e3]
      dsimp only
      rw [e4]
      dsimp only
      rw [if_pos (by rw [ok, decide_eq_true lt]; rfl)]
      exact next _ S3 h3
theorem dc_inv {lf : LF} {ds : List PyData} {ρ : En} {S S1 : Src} (I : Nat → List (PyData × PyData) → Src → Prop) (hl : lf ρ S = .ok ds S1) (step : ∀ j d acc S, ds[j]? = some d → I j acc S → ∃ ρ1 b S1, bindT t (.dat d) (wipeE ρ vs) = some ρ1 ∧ c ρ1 S = .ok b S1 ∧ (b = false → I (j + 1) acc S1) ∧ (b = true → ∃ k y S2 S3, uk ρ1 S1 = .ok (.dat k) S2 ∧ uv ρ1 S2 = .ok (.dat y) S3 ∧ kOk kd k = true ∧ acc.length < 16000000 ∧ I (j + 1) (putP acc k y) S3)) (h : I 0 [] S1) :
    ∃ ys S', fDc kd lf t vs c uk uv ρ S = .ok (.dic ys) S' ∧ I ds.length ys S' := by
  obtain ⟨ys, S', e, h'⟩ := dcL_inv (kd := kd) (t := t) (vs := vs) (c := c) (uk := uk) (uv := uv) (I := I) (ρ := ρ) (ds := ds) (i := 0) (acc := []) (S := S1) (fun j d acc S e hj => by
    rw [Nat.zero_add] at hj ⊢
    exact step j d acc S e hj) h
  rw [Nat.zero_add] at h'
  refine ⟨ys, S', ?_, h'⟩
  unfold fDc
  rw [hl, Out.bind_ok, e]
  rfl
end
/-! ### a dict's entries -/
section
variable {kvs : List (PyData × PyData)} {k d : PyData}
theorem putP_len : (putP kvs k d).length ≤ kvs.length + 1 := by
  unfold putP
  split
  · rw [List.length_map]; omega
  · rw [List.length_append]; exact Nat.le_refl _
theorem putP_all {P : PyData → Prop} (h : ∀ kv ∈ kvs, P kv.1) (hk : P k) : ∀ kv ∈ putP kvs k d, P kv.1 := by
  unfold putP
  split
  · intro kv m
    obtain ⟨x, mx, rfl⟩ := List.mem_map.mp m
    have := h x mx
    split <;> exact this
  · intro kv m
    rcases List.mem_append.mp m with m | m
    · exact h kv m
    · obtain rfl := List.mem_singleton.mp m
      exact hk
theorem putP_vals {P : PyData → Prop} (h : ∀ kv ∈ kvs, P kv.2) (hd : P d) : ∀ kv ∈ putP kvs k d, P kv.2 := by
  unfold putP
  split
  · intro kv m
    obtain ⟨x, mx, rfl⟩ := List.mem_map.mp m
    have := h x mx
    split
    · exact hd
    · exact this
  · intro kv m
    rcases List.mem_append.mp m with m | m
    · exact h kv m
    · obtain rfl := List.mem_singleton.mp m
      exact hd
theorem putP_keeps {k0 : PyData} (h : ∃ kv ∈ kvs, kv.1 = k0) : ∃ kv ∈ putP kvs k d, kv.1 = k0 := by
  obtain ⟨x, mx, e⟩ := h
  unfold putP
  split
  · refine ⟨_, List.mem_map.mpr ⟨x, mx, rfl⟩, ?_⟩
    split <;> exact e
  · exact ⟨x, List.mem_append.mpr (.inl mx), e⟩
theorem putP_first : putP [] k d = [(k, d)] := rfl
theorem lookD_has {k0 : PyData} (h : ∃ kv ∈ kvs, kv.1 = k0) (r : PyData.eqv k0 k0 = true) : ∃ y, lookD kvs k0 = some y := by
  obtain ⟨x, mx, e⟩ := h
  unfold lookD
  cases hf : kvs.find? fun kv => PyData.eqv kv.1 k0 with
  | none =>
    have := List.find?_eq_none.mp hf x mx
    rw [e] at this
    exact absurd r this
  | some y => exact ⟨y.2, rfl⟩
theorem enumD_at {ds : List PyData} {j : Nat} {d : PyData} (h : (enumD ds)[j]? = some d) : ∃ x, ds[j]? = some x ∧ d = .tuple [.int j, x] := by
  unfold enumD at h
  rw [List.getElem?_map] at h
  cases e : (List.range ds.length)[j]? with
  | none => rw [e] at h; cases h
  | some m =>
    rw [e] at h
    obtain ⟨lt, rfl⟩ := List.getElem?_eq_some_iff.mp e
    rw [List.length_range] at lt
    rw [List.getElem_range] at h
    cases h
    refine ⟨ds[j], List.getElem?_eq_getElem lt, ?_⟩
    dsimp only
    rw [List.getD_eq_getElem?_getD, List.getElem?_eq_getElem lt]
    rfl
end
end L2.HL

namespace K02
open PySem PySem.Spec PyProof.Rows L2 L2.HL
section
variable {S : Src}
theorem txts_len {ds : List PyData} (h : ds.all wordD = true) : (txts ds).length = ds.length := by
  have := congrArg List.length (txts_of h)
  rw [List.length_map] at this
  exact this.symm
theorem check_eq {d : PyData} (ok : okD d = true) : F_check_inventory [.dat d] S = if isNo (.dat (errD d)) = true then .ok (.dat .none) S else .exn "InvalidInventory" [("reason", .d (errD d))] S := by
  show defN 2 1 B_check_inventory _ S = _
  rw [defN_eq (by rfl)]
  show (B_check_inventory [.fz (.dat d), .no] S).outN = _
  have e : ∀ S : Src, F_inventory_error [.dat d] S = .ok (.dat (errD d)) S := fun S => inventory_error_eq ok
  unfold B_check_inventory
  by_cases h : isNo (.dat (errD d)) = true
  · simp [sSeq, sSet, sIf, fCall, fCons, fVar, fVarV, e, fCp, cpF, isnV, isV, h]
  · have h : isNo (.dat (errD d)) = false := by simpa using h
    simp [sSeq, sSet, sIf, fCall, fCons, fVar, fVarV, e, fCp, cpF, isnV, isV, h, sRaiseR]
theorem isNo_eq {d : PyData} (h : isNo (.dat d) = true) : d = .none := by
  cases d with
  | none => rfl
  | _ => cases h
/-- what a well-made inventory looks like -/
theorem errD_none {d : PyData} (h : errD d = .none) : ∃ rs items, d = .tuple [.tuple rs, .list items] ∧ rs.all wordD = true ∧ 1 ≤ rs.length ∧ rs.length ≤ 4 ∧ 1 ≤ items.length ∧ items.length ≤ 24 ∧ Good none items := by
  unfold errD at h
  split at h
  · rename_i r i
    cases r with
    | tuple rs =>
      replace h : (if kindsD 1 4 (.tuple rs) = true then errI rs i else .tuple [.str "roots"]) = .none := h
      by_cases hk : kindsD 1 4 (.tuple rs) = true
      · rw [if_pos hk] at h
        have h3 : (decide (1 ≤ rs.length ∧ rs.length ≤ 4) && rs.all wordD) = true := hk
        rw [Bool.and_eq_true] at h3
        unfold errI at h
        split at h
        · rename_i items
          by_cases hl : 1 ≤ items.length ∧ items.length ≤ 24
          · rw [if_pos hl] at h
            unfold errN at h
            cases he : errItems none 0 items with
            | some k => rw [he] at h; cases h
            | none => exact ⟨rs, items, rfl, h3.2, (of_decide_eq_true h3.1).1, (of_decide_eq_true h3.1).2, hl.1, hl.2, good_of he⟩
          · rw [if_neg hl] at h; cases h
        · cases h
      · rw [if_neg hk] at h; cases h
    | _ => cases h
  · cases h
theorem good_at : ∀ {items : List PyData} {prev : Option Str}, Good prev items → ∀ it ∈ items, ∃ a b c, it = .tuple [.str a, .str b, .tuple c] ∧ c.all wordD = true ∧ c.length ≤ 4
  | [], _, _, it, m => absurd m List.not_mem_nil
  | x :: r, prev, ⟨a, h, g⟩, it, m => by
    rcases List.mem_cons.mp m with rfl | m
    · obtain ⟨b, c, e, hc, hl, _⟩ := itemW_shape h
      exact ⟨a, b, c, e, hc, hl⟩
    · exact good_at g it m
def TupK (k : PyData) : Prop := ∃ a b, k = .tuple [.str a, .int b]
def StrK (k : PyData) : Prop := ∃ a, k = .str a
theorem kOk_tup {k : PyData} (h : TupK k) : kOk true k = true := by
  obtain ⟨a, b, rfl⟩ := h
  rfl
/-- the slots' table: pairs of a text and a number; the first place is there -/
def SlotsOk (n : Nat) (kvs : List (PyData × PyData)) : Prop := (∀ kv ∈ kvs, TupK kv.1) ∧ (∃ kv ∈ kvs, kv.1 = .tuple [.str "", .int 0]) ∧ kvs.length ≤ n
theorem SlotsOk.put {n : Nat} {kvs : List (PyData × PyData)} {k d : PyData} (h : SlotsOk n kvs) (hk : TupK k) : SlotsOk (n + 1) (putP kvs k d) :=
  ⟨putP_all h.1 hk, putP_keeps h.2.1, Nat.le_trans putP_len (Nat.succ_le_succ h.2.2)⟩
theorem SlotsOk.tbl {n : Nat} {kvs : List (PyData × PyData)} {a : Str} {b : Int} (h : SlotsOk n kvs) : tblOk kvs (.tuple [.str a, .int b]) = true := by
  match kvs, h with
  | [], h => rfl
  | (k, d) :: r, h =>
    obtain ⟨x, y, rfl⟩ := h.1 _ List.mem_cons_self
    rfl
theorem slots_first {rs items : List PyData} (h1 : 1 ≤ rs.length) (h4 : rs.length ≤ 4) {s2 s3 s4 s5 s6 s7 s8 : Sl} :
    ∃ kvs, fDc true (fEnum (fCons (fVar 1) fNil)) (.many [7, 5]) [7, 5] (fun _ S => .ok true S) (fAll tupF (fCons (fC (.str "")) (fCons (fVar 7) fNil))) (fVar 5) [s2, .fz (.dat (.tuple rs)), s3, s4, s5, s6, s7, s8, .no] S = .ok (.dic kvs) S ∧ SlotsOk 4 kvs := by
  obtain ⟨kvs, S', e, hs, hi⟩ := dc_inv (kd := true) (t := .many [7, 5]) (vs := [7, 5]) (c := fun _ S => .ok true S) (uk := fAll tupF (fCons (fC (.str "")) (fCons (fVar 7) fNil))) (uv := fVar 5) (ρ := [s2, .fz (.dat (.tuple rs)), s3, s4, s5, s6, s7, s8, .no]) (lf := fEnum (fCons (fVar 1) fNil)) (ds := enumD rs) (S := S) (S1 := S)
    (fun j acc S' => S' = S ∧ (∀ kv ∈ acc, TupK kv.1) ∧ (0 < j → ∃ kv ∈ acc, kv.1 = .tuple [.str "", .int 0]) ∧ acc.length ≤ j) (by simp [fEnum, fCons, fVar, enumF]) (fun j d acc S1 hd hi => by
      obtain ⟨x, hx, rfl⟩ := enumD_at hd
      obtain ⟨rfl, hk, h0, hl⟩ := hi
      have jl : j < rs.length := (List.getElem?_eq_some_iff.mp hx).1
      refine ⟨[s2, .fz (.dat (.tuple rs)), s3, s4, s5, .fz (.dat x), s7, .fz (.dat (.int j)), .no], true, S1, rfl, rfl, (fun z => nomatch z), fun _ => ⟨.tuple [.str "", .int j], x, S1, S1, by simp [fAll, fCons, fVar, tupF, datsOf], by simp [fVar], rfl, by omega, rfl, putP_all hk ⟨_, _, rfl⟩, fun _ => ?_, ?_⟩⟩
      · cases j with
        | zero =>
          obtain rfl : acc = [] := List.eq_nil_of_length_eq_zero (by omega)
          exact ⟨_, List.mem_cons_self, rfl⟩
        | succ j => exact putP_keeps (h0 (by omega))
      · exact Nat.le_trans putP_len (by omega)) ⟨rfl, fun _ m => absurd m List.not_mem_nil, fun z => absurd z (by omega), Nat.le_refl _⟩
  rw [enumD_len] at hi
  subst hs
  exact ⟨kvs, e, hi.1, hi.2.1 (by omega), Nat.le_trans hi.2.2 h4⟩
theorem slot_kinds_eq {rs items : List PyData} (h1 : 1 ≤ rs.length) (h4 : rs.length ≤ 4) (h24 : items.length ≤ 24) (g : Good none items) : ∃ kvs, F_slot_kinds [.dat (.tuple [.tuple rs, .list items])] S = .ok (.dic kvs) S ∧ SlotsOk 200 kvs := by
  obtain ⟨k0, e0, h0⟩ := slots_first (items := items) (S := S) h1 h4 (s2 := .fz (.dat (.tuple [.tuple rs, .list items]))) (s3 := .fz (.dat (.list items))) (s4 := .no) (s5 := .no) (s6 := .no) (s7 := .no) (s8 := .no)
  have sh := good_at g
  obtain ⟨ρ', S', e1, hi⟩ := sFor_inv (t := .many [4, 5, 6]) (f := sFor (fEnum (fCons (fVar 6) fNil)) (.many [7, 8]) (sPutD 3 (fAll tupF (fCons (fVar 4) (fCons (fVar 7) fNil))) (fVar 8))) (lf := fIt (fVar 2)) (ds := items)
    (ρ := [.fz (.dat (.tuple [.tuple rs, .list items])), .fz (.dat (.tuple rs)), .fz (.dat (.list items)), .ow (.dic k0), .no, .no, .no, .no, .no]) (S := S) (S1 := S)
    (fun j ρ S' => S' = S ∧ ∃ kvs s4 s5 s6 s7 s8, ρ = [.fz (.dat (.tuple [.tuple rs, .list items])), .fz (.dat (.tuple rs)), .fz (.dat (.list items)), .ow (.dic kvs), s4, s5, s6, s7, s8] ∧ SlotsOk (4 + 4 * j) kvs) (by simp [fIt, fVar, itV]) (fun j d ρ S1 hd hi => by
      obtain ⟨rfl, kvs, s4, s5, s6, s7, s8, rfl, hk⟩ := hi
      have jl : j < items.length := (List.getElem?_eq_some_iff.mp hd).1
      obtain ⟨a, b, c, rfl, hc, c4⟩ := sh d (List.mem_of_getElem? hd)
      refine ⟨[.fz (.dat (.tuple [.tuple rs, .list items])), .fz (.dat (.tuple rs)), .fz (.dat (.list items)), .ow (.dic kvs), .fz (.dat (.str a)), .fz (.dat (.str b)), .fz (.dat (.tuple c)), s7, s8], ?_⟩
      obtain ⟨ρ', S', e1, hi⟩ := sFor_inv (t := .many [7, 8]) (f := sPutD 3 (fAll tupF (fCons (fVar 4) (fCons (fVar 7) fNil))) (fVar 8)) (lf := fEnum (fCons (fVar 6) fNil)) (ds := enumD c)
        (ρ := [.fz (.dat (.tuple [.tuple rs, .list items])), .fz (.dat (.tuple rs)), .fz (.dat (.list items)), .ow (.dic kvs), .fz (.dat (.str a)), .fz (.dat (.str b)), .fz (.dat (.tuple c)), s7, s8]) (S := S1) (S1 := S1)
        (fun i ρ S' => S' = S1 ∧ ∃ kvs s7 s8, ρ = [.fz (.dat (.tuple [.tuple rs, .list items])), .fz (.dat (.tuple rs)), .fz (.dat (.list items)), .ow (.dic kvs), .fz (.dat (.str a)), .fz (.dat (.str b)), .fz (.dat (.tuple c)), s7, s8] ∧ SlotsOk (4 + 4 * j + i) kvs) (by simp [fEnum, fCons, fVar, enumF]) (fun i d ρ S2 hd hi => by
          obtain ⟨rfl, kvs, s7, s8, rfl, hk⟩ := hi
          obtain ⟨x, hx, rfl⟩ := enumD_at hd
          have il : i < c.length := (List.getElem?_eq_some_iff.mp hx).1
          refine ⟨_, _, S2, rfl, ?_, rfl, putP kvs (.tuple [.str a, .int i]) x, .fz (.dat (.int i)), .fz (.dat x), rfl, hk.put ⟨_, _, rfl⟩⟩
          have lt : kvs.length < 16000000 := by have := hk.2.2; omega
          simp [sPutD, SOut.letV, setMany, fAll, fCons, fVar, tupF, datsOf, putV, hk.tbl, lt]) ⟨rfl, kvs, s7, s8, rfl, hk⟩
      obtain ⟨rfl, kvs', s7', s8', rfl, hk'⟩ := hi
      rw [enumD_len] at hk'
      exact ⟨_, _, rfl, e1, rfl, kvs', _, _, _, _, _, rfl, hk'.1, hk'.2.1, by have := hk'.2.2; omega⟩) ⟨rfl, k0, .no, .no, .no, .no, .no, rfl, h0⟩
  obtain ⟨rfl, kvs, s4, s5, s6, s7, s8, rfl, hk⟩ := hi
  refine ⟨kvs, ?_, hk.1, hk.2.1, by have := hk.2.2; omega⟩
  show defF 9 1 B_slot_kinds _ _ = _
  rw [defF_eq (by rfl)]
  show (B_slot_kinds [.fz (.dat (.tuple [.tuple rs, .list items])), .no, .no, .no, .no, .no, .no, .no, .no] S').out = _
  unfold B_slot_kinds
  have first : sUnp (.many [1, 2]) (fVar 0) [.fz (.dat (.tuple [.tuple rs, .list items])), .no, .no, .no, .no, .no, .no, .no, .no] S' = .nx [.fz (.dat (.tuple [.tuple rs, .list items])), .fz (.dat (.tuple rs)), .fz (.dat (.list items)), .no, .no, .no, .no, .no, .no] S' := by
    simp [sUnp, SOut.letV, fVar, bindT, setMany]
  rw [sSeq, first, SOut.seq_nx, sSeq]
  have snd : sOwn 3 (fDc true (fEnum (fCons (fVar 1) fNil)) (.many [7, 5]) [7, 5] (fun _ S => .ok true S) (fAll tupF (fCons (fC (.str "")) (fCons (fVar 7) fNil))) (fVar 5)) [.fz (.dat (.tuple [.tuple rs, .list items])), .fz (.dat (.tuple rs)), .fz (.dat (.list items)), .no, .no, .no, .no, .no, .no] S' = .nx [.fz (.dat (.tuple [.tuple rs, .list items])), .fz (.dat (.tuple rs)), .fz (.dat (.list items)), .ow (.dic k0), .no, .no, .no, .no, .no] S' := by
    unfold sOwn
    rw [e0]
    rfl
  rw [snd, SOut.seq_nx, sSeq, e1, SOut.seq_nx]
  rfl
end
end K02

namespace K02
open PySem PySem.Spec PyProof.Rows L2 L2.HL
/-! ### draws: any number below the limit -/
/-- the source, with at most t draws taken -/
def Gd (t : Nat) (S : Src) : Prop := S.cells ≠ [] ∧ S.cells.length ≤ 63 ∧ 0 ≤ S.turn ∧ S.turn ≤ t
theorem Gd.mono {t t' : Nat} {S : Src} (h : Gd t S) (le : t ≤ t') : Gd t' S := ⟨h.1, h.2.1, h.2.2.1, by have := h.2.2.2; omega⟩
theorem drawS_lt {n : Int} {S : Src} (hn : 0 < n) : 0 ≤ (drawS n S).1 ∧ (drawS n S).1 < n := by
  unfold drawS
  split
  · exact ⟨Int.emod_nonneg _ (by omega), Int.emod_lt_of_pos _ hn⟩
  · unfold drawV
    exact ⟨Int.emod_nonneg _ (by omega), Int.emod_lt_of_pos _ hn⟩
theorem drawS_gd {n : Int} {t : Nat} {S : Src} (h : Gd t S) : Gd (t + 1) (drawS n S).2 := by
  obtain ⟨h1, h2, h3, h4⟩ := h
  unfold drawS
  split
  · refine ⟨?_, ?_, ?_, ?_⟩
    · intro z
      have : (S.cells.set (S.turn % S.cells.length).toNat (S.now / n)).length = 0 := by rw [show S.cells.set (S.turn % S.cells.length).toNat (S.now / n) = [] from z]; rfl
      rw [List.length_set] at this
      exact h1 (List.eq_nil_of_length_eq_zero this)
    · show (S.cells.set _ _).length ≤ 63
      rw [List.length_set]; exact h2
    · show 0 ≤ S.turn + 1
      omega
    · show S.turn + 1 ≤ _
      omega
  · exact ⟨h1, h2, by show 0 ≤ S.turn + 1; omega, by show S.turn + 1 ≤ _; omega⟩
theorem draw_eq {n t : Nat} {S : Src} (h : Gd t S) (ht : t ≤ 1000000) (h0 : 0 < n) (hn : n ≤ 1000000) : ∃ (r : Nat) (S' : Src), F__law_draw [.src, .dat (.int n)] S = .ok (.dat (.int r)) S' ∧ r < n ∧ Gd (t + 1) S' := by
  have n0 : (0 : Int) < n := by omega
  have lt := drawS_lt (S := S) n0
  refine ⟨(drawS n S).1.toNat, (drawS n S).2, ?_, by omega, drawS_gd h⟩
  rw [Int.toNat_of_nonneg lt.1]
  show (if drawOk n S = true then _ else _) = _
  have ok : drawOk n S = true := by
    unfold drawOk
    have p40 : (2 : Int) ^ 40 = 1099511627776 := by decide
    have pk : (n : Int) < 2 ^ 1000 := by
      have : (1000000 : Int) < 2 ^ 1000 := by decide +kernel
      omega
    rw [decide_eq_true ⟨n0, pk⟩, decide_eq_true (⟨h.2.2.1, by have := h.2.2.2; omega⟩ : 0 ≤ S.turn ∧ S.turn < 2 ^ 40), decide_eq_true (⟨h.1, h.2.1⟩ : S.cells ≠ [] ∧ S.cells.length ≤ 63)]
    rfl
  rw [if_pos ok]
theorem pick_eq {xs : List PyData} {t : Nat} {S : Src} (h : Gd t S) (ht : t ≤ 1000000) (h0 : xs ≠ []) (hn : xs.length ≤ 1000000) : ∃ x ∈ xs, ∃ S', F__law_pick [.src, .dat (.list xs)] S = .ok (.dat x) S' ∧ Gd (t + 1) S' := by
  obtain ⟨r, S', e, lt, g⟩ := draw_eq (n := xs.length) h ht (List.length_pos_iff.mpr h0) hn
  refine ⟨xs[r], List.getElem_mem lt, S', ?_, g⟩
  have a : atI xs r = some xs[r] := atI_nat (List.getElem?_eq_getElem lt)
  show defF 2 2 B__law_pick _ _ = _
  rw [defF_eq (by rfl)]
  show (B__law_pick [.fz .src, .fz (.dat (.list xs))] S).out = _
  unfold B__law_pick
  simp [sRet, SOut.letV, fOpE, fVarV, fVar, fCall, fCons, fAll, lenF, e, idxV, a]
theorem shuffle_eq {xs : List PyData} {t : Nat} {S : Src} (h : Gd t S) (ht : t ≤ 900000) (hn : xs.length ≤ 1000) : ∃ ys S', F__law_shuffle [.src, .dat (.list xs)] S = .ok (.dat (.list ys)) S' ∧ ys.Perm xs ∧ Gd (t + xs.length) S' := by
  obtain ⟨ρ', S', e, ys, s3, rfl, hl, hm, g⟩ := sFor_inv (t := .one 3) (f := sDropM (fMut 2 insF (fCons (fCall F__law_draw (fCons (fVar 0) (fCons (fOp addV (fAll lenF (fCons (fVarV 2) fNil)) (fC (.int 1))) fNil))) (fCons (fVar 3) fNil)))) (lf := fIt (fVar 1)) (ds := xs)
    (ρ := [.fz .src, .fz (.dat (.list xs)), .ow (.dat (.list [])), .no]) (S := S) (S1 := S)
    (fun j ρ S' => ∃ ys s3, ρ = [.fz .src, .fz (.dat (.list xs)), .ow (.dat (.list ys)), s3] ∧ ys.length = j ∧ ys.Perm (xs.take j) ∧ Gd (t + j) S') (by simp [fIt, fVar, itV]) (fun j d ρ S1 hd hi => by
      obtain ⟨ys, s3, rfl, hl, hm, g⟩ := hi
      have jl : j < xs.length := (List.getElem?_eq_some_iff.mp hd).1
      obtain ⟨r, S2, er, lr, g2⟩ := draw_eq (n := ys.length + 1) g (by omega) (by omega) (by omega)
      have er' : F__law_draw [.src, .dat (.int ((ys.length : Int) + 1))] S1 = .ok (.dat (.int r)) S2 := er
      refine ⟨_, [.fz .src, .fz (.dat (.list xs)), .ow (.dat (.list (ys.take r ++ [d] ++ ys.drop r))), .fz (.dat d)], S2, rfl, ?_, _, _, rfl, ?_, ?_, g2⟩
      · have c1 : ys.length < 16000000 := by omega
        have c2 : (r : Int) < 9223372036854775808 := by omega
        simp [sDropM, SOut.letV, fMut, fCons, fCall, fVar, fVarV, fOp, opF, fAll, lenF, addV, er', insF, c1, c2]
      · simp; omega
      · have tk : xs.take (j + 1) = xs.take j ++ [d] := by rw [List.take_add_one, hd]; rfl
        rw [tk]
        have p1 : (ys.take r ++ [d] ++ ys.drop r).Perm (d :: ys) := by
          have := (List.perm_middle (a := d) (l₁ := ys.take r) (l₂ := ys.drop r))
          rw [List.take_append_drop] at this
          simpa using this
        exact p1.trans ((List.Perm.cons d hm).trans (by simpa using (List.perm_append_comm (l₁ := [d]) (l₂ := xs.take j))))) ⟨[], .no, rfl, rfl, .refl _, h⟩
  rw [List.take_length] at hm
  refine ⟨ys, S', ?_, hm, g⟩
  show defF 4 2 B__law_shuffle _ _ = _
  rw [defF_eq (by rfl)]
  show (B__law_shuffle [.fz .src, .fz (.dat (.list xs)), .no, .no] S).out = _
  unfold B__law_shuffle
  have first : sOwn 2 (fAll lstF fNil) [.fz .src, .fz (.dat (.list xs)), .no, .no] S = .nx [.fz .src, .fz (.dat (.list xs)), .ow (.dat (.list [])), .no] S := by simp [sOwn, SOut.letV, fAll, lstF, datsOf, Vl.box]
  rw [sSeq, first, SOut.seq_nx, sSeq, e, SOut.seq_nx]
  simp [sFz, sRet, SOut.letV, fVar]
end K02

namespace K02
open PySem PySem.Spec PyProof.Rows L2 L2.HL
/-! ### values of bounded size: their text is short -/
def brk : Nat → Nat
  | 1 => 1
  | 2 => 20
  | 3 => 4
  | 4 => 25
  | _ => 3
def wd : Nat → Nat
  | 0 => 100
  | n + 1 => 3 + brk (n + 1) * (wd n + 2)
def fitS (x : Str) : Bool := decide (x.length ≤ 9) && x.cps.toList.all fun c => decide (c < 1000)
def fitL : Nat → PyData → Bool
  | 0, d => match d with
    | .none => true
    | .bool _ => true
    | .int i => decide (i = 0 ∨ i = 7)
    | .str x => fitS x
    | _ => false
  | n + 1, d => match d with
    | .none => true
    | .bool _ => true
    | .int i => decide (i = 0 ∨ i = 7)
    | .str x => fitS x
    | .list ds => decide (ds.length ≤ brk (n + 1)) && ds.all (fitL n)
    | .tuple ds => decide (ds.length ≤ brk (n + 1)) && ds.all (fitL n)
    | .dict _ => false
theorem brk_pos : ∀ n, 1 ≤ brk n := fun n => by
  unfold brk
  split <;> omega
theorem wd_ge : ∀ n, 100 ≤ wd n
  | 0 => Nat.le_refl _
  | n + 1 => by
    have h := wd_ge n
    have b := brk_pos (n + 1)
    show 100 ≤ 3 + brk (n + 1) * (wd n + 2)
    have : 1 * (wd n + 2) ≤ brk (n + 1) * (wd n + 2) := Nat.mul_le_mul_right _ b
    omega
theorem textFrom_le : ∀ (ts : List Str) (k : Nat) (acc : Str), (textFrom k acc ts).length ≤ acc.length + piled ts
  | [], k, acc => Nat.le_add_right _ _
  | t :: ts, k, acc => by
    show (textFrom (k + 1) (acc ++ (if k > 0 then ", " else "" : String) ++ t) ts).length ≤ _
    have ih := textFrom_le ts (k + 1) (acc ++ (if k > 0 then ", " else "" : String) ++ t)
    have e : (((if k > 0 then ", " else "" : String) : Str)).length ≤ 2 := by split <;> decide
    rw [strLen_append, strLen_append] at ih
    have p : piled (t :: ts) = t.length + 2 + piled ts := by simp [piled]
    omega
theorem listText_le (ts : List Str) : (listText ts).length ≤ 3 + piled ts := by
  unfold listText
  rw [strLen_append]
  have h := textFrom_le ts 0 "["
  have e1 : ((("[" : String) : Str)).length = 1 := rfl
  have e2 : ((("]" : String) : Str)).length = 1 := rfl
  omega
theorem tupleText_le (ts : List Str) : (tupleText ts).length ≤ 3 + piled ts := by
  unfold tupleText
  rw [strLen_append, strLen_append]
  have e1 : ((("(" : String) : Str)).length = 1 := rfl
  have e3 : (((if ts.length == 1 then ",)" else ")" : String) : Str)).length ≤ 2 := by split <;> decide
  by_cases h : ts = []
  · subst h
    have : (Str.join ", " []).length = 0 := rfl
    omega
  · have := join_length_add ts h
    omega
theorem shownAll_map : ∀ ds : List PyData, PyData.shownAll ds = ds.map PyData.shown
  | [] => by rw [PyData.shownAll]; rfl
  | d :: ds => by rw [PyData.shownAll, shownAll_map ds]; rfl
theorem piled_le {w : Nat} : ∀ {ts : List Str}, (∀ t ∈ ts, t.length ≤ w) → piled ts ≤ ts.length * (w + 2)
  | [], _ => Nat.zero_le _
  | t :: ts, h => by
    have ih := piled_le (fun u m => h u (List.mem_cons_of_mem _ m))
    have p : piled (t :: ts) = t.length + 2 + piled ts := by simp [piled]
    have a := h t List.mem_cons_self
    rw [p, List.length_cons, Nat.add_mul]
    omega
structure Fits (n : Nat) (d : PyData) : Prop where
  len : d.shown.length ≤ wd n
  show' : d.showable = true
  dict : d.hasDict = false
  dep : d.depth ≤ n
  ok : okD d = true
theorem fitS_of {x : Str} (h : fitS x = true) (n : Nat) : Fits n (.str x) := by
  unfold fitS at h
  rw [Bool.and_eq_true, decide_eq_true_eq, List.all_eq_true] at h
  have hc : ∀ c ∈ x.cps.toList, c < 16 ^ 8 := fun c m => by
    have := of_decide_eq_true (h.2 c m)
    omega
  have := StrLaws.reprText_len x hc
  have w := wd_ge n
  refine ⟨by rw [PyData.shown]; omega, by rw [PyData.showable], by rw [PyData.hasDict], Nat.zero_le _, ?_⟩
  unfold okD
  exact decide_eq_true (by omega)
theorem fit_flat {d : PyData} (h : fitL 0 d = true) (n : Nat) : Fits n d := by
  have w := wd_ge n
  cases d with
  | none => exact ⟨Nat.le_trans (by rw [PyData.shown]; decide) w, by rw [PyData.showable], by rw [PyData.hasDict], Nat.zero_le _, by unfold okD; rfl⟩
  | bool b => exact ⟨Nat.le_trans (by rw [PyData.shown]; cases b <;> decide) w, by rw [PyData.showable], by rw [PyData.hasDict], Nat.zero_le _, by unfold okD; rfl⟩
  | int i =>
    have : i = 0 ∨ i = 7 := of_decide_eq_true h
    rcases this with rfl | rfl
    · exact ⟨Nat.le_trans (by rw [PyData.shown]; decide) w, by rw [PyData.showable]; decide, by rw [PyData.hasDict], Nat.zero_le _, by unfold okD; rfl⟩
    · exact ⟨Nat.le_trans (by rw [PyData.shown]; decide) w, by rw [PyData.showable]; decide, by rw [PyData.hasDict], Nat.zero_le _, by unfold okD; rfl⟩
  | str x => exact fitS_of h n
  | list ds => cases h
  | tuple ds => cases h
  | dict ds => cases h
theorem fit_all {n m : Nat} : ∀ {ds : List PyData}, (∀ d ∈ ds, Fits n d) → PyData.showableAll ds = true ∧ PyData.hasDictAll ds = false ∧ PyData.depthAll ds ≤ n ∧ okAll ds = true
  | [], _ => ⟨by rw [PyData.showableAll], by rw [PyData.hasDictAll], by rw [PyData.depthAll]; exact Nat.zero_le _, by unfold okAll; rfl⟩
  | d :: ds, h => by
    obtain ⟨a, b, c, e⟩ := fit_all (m := m) (n := n) (ds := ds) fun d m => h d (List.mem_cons_of_mem _ m)
    have f := h d List.mem_cons_self
    refine ⟨by rw [PyData.showableAll, f.show', a]; rfl, by rw [PyData.hasDictAll, f.dict, b]; rfl, by rw [PyData.depthAll]; exact Nat.max_le.mpr ⟨f.dep, c⟩, ?_⟩
    unfold okAll
    rw [f.ok, e]
    rfl
theorem fit_of : ∀ {n : Nat} {d : PyData}, fitL n d = true → Fits n d
  | 0, d, h => fit_flat h 0
  | n + 1, d, h => by
    cases d with
    | none => exact fit_flat (by rfl) _
    | bool b => exact fit_flat (by rfl) _
    | int i => exact fit_flat (d := .int i) (show fitL 0 (.int i) = true from h) _
    | str x => exact fit_flat (d := .str x) (show fitL 0 (.str x) = true from h) _
    | dict ds => cases h
    | list ds =>
      have h2 : (decide (ds.length ≤ brk (n + 1)) && ds.all (fitL n)) = true := h
      rw [Bool.and_eq_true, decide_eq_true_eq, List.all_eq_true] at h2
      have all := fun d m => fit_of (h2.2 d m)
      obtain ⟨a, b, c, e⟩ := fit_all (m := 0) all
      refine ⟨?_, by rw [PyData.showable]; exact a, by rw [PyData.hasDict]; exact b, by rw [PyData.depth]; omega, by unfold okD; exact e⟩
      rw [PyData.shown, shownAll_map]
      have p := piled_le (w := wd n) (ts := ds.map PyData.shown) fun t m => by
        obtain ⟨d, md, rfl⟩ := List.mem_map.mp m
        exact (all d md).len
      rw [List.length_map] at p
      have q : ds.length * (wd n + 2) ≤ brk (n + 1) * (wd n + 2) := Nat.mul_le_mul_right _ h2.1
      have l := listText_le (ds.map PyData.shown)
      show _ ≤ 3 + brk (n + 1) * (wd n + 2)
      omega
    | tuple ds =>
      have h2 : (decide (ds.length ≤ brk (n + 1)) && ds.all (fitL n)) = true := h
      rw [Bool.and_eq_true, decide_eq_true_eq, List.all_eq_true] at h2
      have all := fun d m => fit_of (h2.2 d m)
      obtain ⟨a, b, c, e⟩ := fit_all (m := 0) all
      refine ⟨?_, by rw [PyData.showable]; exact a, by rw [PyData.hasDict]; exact b, by rw [PyData.depth]; omega, by unfold okD; exact e⟩
      rw [PyData.shown, shownAll_map]
      have p := piled_le (w := wd n) (ts := ds.map PyData.shown) fun t m => by
        obtain ⟨d, md, rfl⟩ := List.mem_map.mp m
        exact (all d md).len
      rw [List.length_map] at p
      have q : ds.length * (wd n + 2) ≤ brk (n + 1) * (wd n + 2) := Nat.mul_le_mul_right _ h2.1
      have l := tupleText_le (ds.map PyData.shown)
      show _ ≤ 3 + brk (n + 1) * (wd n + 2)
      omega
theorem fit_repr {d : PyData} (h : fitL 5 d = true) : reprF [.dat d] = some (.dat (.str d.shown)) := by
  have f := fit_of h
  have w5 : wd 5 ≤ 16777216 := by decide
  have ok : reprOk d = true := by
    unfold reprOk
    rw [f.show', f.dict, decide_eq_true (Nat.le_trans f.len w5), decide_eq_true (Nat.le_trans f.dep (by decide : (5 : Nat) ≤ 100))]
    rfl
  show (if reprOk d = true then _ else _) = _
  rw [if_pos ok]
end K02

namespace K02
open PySem PySem.Spec PyProof.Rows L2 L2.HL
/-! ### the law's own drawn items -/
theorem wordD_str {d : PyData} (h : wordD d = true) : ∃ x, d = .str x := by
  cases d with
  | str x => exact ⟨x, rfl⟩
  | _ => cases h
/-- the six kinds that are drawn -/
def kindS6 : List Str := ["k", "l", "kin", "root", "twelves", "zz"]
def kindB : PyData → Bool
  | .str x => decide (x ∈ kindS6)
  | _ => false
theorem kindB_str {d : PyData} (h : kindB d = true) : ∃ x, d = .str x := by
  cases d with
  | str x => exact ⟨x, rfl⟩
  | _ => cases h
theorem kindB_word {d : PyData} (h : kindB d = true) : wordD d = true := by
  obtain ⟨x, rfl⟩ := kindB_str h
  have m : x ∈ kindS6 := of_decide_eq_true h
  unfold kindS6 at m
  simp only [List.mem_cons, List.not_mem_nil, or_false] at m
  rcases m with rfl | rfl | rfl | rfl | rfl | rfl <;> decide +kernel
theorem kindsB_words {c : List PyData} (h : c.all kindB = true) : c.all wordD = true := List.all_eq_true.mpr fun d m => kindB_word (List.all_eq_true.mp h d m)
def KindsOk (ks : List PyData) : Prop := ks ≠ [] ∧ ks.length ≤ 6 ∧ ∀ k ∈ ks, kindB k = true
abbrev ei (ks : List PyData) (s3 s4 s5 s6 s7 s8 s9 s10 s11 s12 s13 s14 s15 : Sl) : En := [.fz .src, .fz (.dat (.int 24)), .fz (.dat (.list ks)), s3, s4, s5, s6, s7, s8, s9, s10, s11, s12, s13, s14, s15]
section
variable {ks : List PyData} {s3 s4 s5 s6 s7 s8 s9 s10 s11 s12 s13 s14 s15 : Sl} {S S1 : Src} {t : Nat}
theorem rngFrom_at : ∀ {m k j : Nat} {d : PyData}, (rngFrom k m)[j]? = some d → d = .int ((k + j : Nat) : Int) ∧ j < m
  | 0, k, j, d, h => by simp [rngFrom] at h
  | m + 1, k, 0, d, h => by
    have : some (PyData.int (k : Nat)) = some d := h
    cases this
    exact ⟨rfl, Nat.succ_pos _⟩
  | m + 1, k, j + 1, d, h => by
    have h' : (rngFrom (k + 1) m)[j]? = some d := h
    obtain ⟨e, lt⟩ := rngFrom_at h'
    exact ⟨by rw [e, show k + 1 + j = k + (j + 1) by omega], by omega⟩
theorem picks_eq (hk : KindsOk ks) {lf : LF} {m : Nat} (hl : lf (ei ks s3 s4 s5 s6 s7 s8 s9 s10 s11 s12 s13 s14 s15) S = .ok (rngFrom 0 m) S1) (hm : m ≤ 4) (g : Gd t S1) (ht : t ≤ 900000) :
    ∃ ys S', fLc lf (.one 14) [14] (fun _ S => .ok true S) (fCall F__law_pick (fCons (fVar 0) (fCons (fVar 2) fNil))) (ei ks s3 s4 s5 s6 s7 s8 s9 s10 s11 s12 s13 s14 s15) S = .ok (.dat (.list ys)) S' ∧ ys.length = m ∧ ys.all kindB = true ∧ Gd (t + m) S' := by
  obtain ⟨ys, S', e, hy, hw, g'⟩ := lc_inv (t := .one 14) (vs := [14]) (c := fun _ S => .ok true S) (u := fCall F__law_pick (fCons (fVar 0) (fCons (fVar 2) fNil))) (lf := lf) (ds := rngFrom 0 m) (ρ := ei ks s3 s4 s5 s6 s7 s8 s9 s10 s11 s12 s13 s14 s15) (S := S) (S1 := S1)
    (fun j acc S' => acc.length = j ∧ acc.all kindB = true ∧ Gd (t + j) S') hl (fun j d acc S2 hd hi => by
      obtain ⟨ha, hw, g2⟩ := hi
      obtain ⟨_, jl⟩ := rngFrom_at hd
      obtain ⟨x, mx, S3, e, g3⟩ := pick_eq (xs := ks) g2 (by omega) hk.1 (by have := hk.2.1; omega)
      refine ⟨ei ks s3 s4 s5 s6 s7 s8 s9 s10 s11 s12 s13 (.fz (.dat d)) s15, true, S2, rfl, rfl, (fun z => nomatch z), fun _ => ⟨x, S3, ?_, ?_, ?_, g3⟩⟩
      · simp [ei, fCall, fCons, fVar, e]
      · simp [ha]
      · simp [hw, hk.2.2 x mx]) (by rw [rngFrom_len]; omega) ⟨rfl, rfl, g⟩
  rw [rngFrom_len] at hy g'
  exact ⟨ys, S', e, hy, hw, g'⟩
/-- how many roots -/
theorem rootcount (g : Gd t S) (ht : t ≤ 900000) : ∃ m S', fRng1 (fCons (fOp addV (fC (.int 1)) (fCall F__law_draw (fCons (fVar 0) (fCons (fOpE idxV (fAll lstF (fCons (fC (.int 1)) (fCons (fC (.int 2)) (fCons (fC (.int 4)) fNil)))) (fCall F__law_draw (fCons (fVar 0) (fCons (fC (.int 3)) fNil)))) fNil)))) fNil) (ei ks s3 s4 s5 s6 s7 s8 s9 s10 s11 s12 s13 s14 s15) S = .ok (rngFrom 0 m) S' ∧ 1 ≤ m ∧ m ≤ 4 ∧ Gd (t + 2) S' := by
  obtain ⟨r, S1, e1, l1, g1⟩ := draw_eq (n := 3) g (by omega) (by omega) (by omega)
  obtain ⟨n, hn, n1, n4⟩ : ∃ n : Nat, atI [PyData.int 1, .int 2, .int 4] (r : Int) = some (.int n) ∧ 1 ≤ n ∧ n ≤ 4 := by
    have : r = 0 ∨ r = 1 ∨ r = 2 := by omega
    rcases this with rfl | rfl | rfl
    · exact ⟨1, rfl, by omega, by omega⟩
    · exact ⟨2, rfl, by omega, by omega⟩
    · exact ⟨4, rfl, by omega, by omega⟩
  obtain ⟨q, S2, e2, l2, g2⟩ := draw_eq (n := n) g1 (by omega) (by omega) (by omega)
  refine ⟨1 + q, S2, rng1_eq ?_ (by omega), by omega, by omega, g2⟩
  have e1' : F__law_draw [.src, .dat (.int 3)] S = .ok (.dat (.int r)) S1 := e1
  simp [ei, fCons, fOp, opF, fCall, fVar, fOpE, fAll, lstF, datsOf, e1', idxV, hn, e2, addV]
def WordT (d : PyData) : Prop := ∃ c, d = .tuple c ∧ c.all kindB = true ∧ c.length ≤ 4
/-- an open place: whose, and which -/
def PlaceOk (d : PyData) : Prop := ∃ (o : PyData) (i : Int), d = .tuple [o, .int i] ∧ (o = .str "" ∨ ∃ n : Nat, n < 24 ∧ o = .int n)
def BuiltOk (d : PyData) : Prop := ∃ (k : Str) (c : List PyData) (p : PyData), d = .tuple [.str k, .tuple c, p] ∧ kindB (.str k) = true ∧ c.all kindB = true ∧ c.length ≤ 4 ∧ PlaceOk p
theorem popF_eq {ds : List PyData} {r : Nat} (h : r < ds.length) (hb : ds.length ≤ 1000) : popF ds [.dat (.int r)] = some (ds.eraseIdx r, ds[r]) := by
  have sq : seqIndex? r ds.length = some r := by
    unfold seqIndex?
    have a : ¬ (r : Int) < 0 := by omega
    simp only [if_neg a]
    rw [if_pos (by simp; omega)]
    simp
  have b1 : -(2 ^ 63) ≤ (r : Int) ∧ (r : Int) < 2 ^ 63 := ⟨by omega, by omega⟩
  rw [popF, if_pos b1, sq]
  simp only
  rw [List.getElem?_eq_getElem h]
  rfl
def B_more : SF := (sSeq (sDropM (fMut 4 appF (fCons (fAll tupF (fCons (fAll lenF (fCons (fVarV 6) fNil)) (fCons (fVar 13) fNil))) fNil)))
    (sDropM (fMut 5 appF (fCons (fOpE idxV (fVarV 11) (fVarV 13)) fNil))))
theorem more_eq {os as bs cs : List PyData} {m : Nat} (hm : m = cs.length) (hc : cs.all kindB = true) (c4 : cs.length ≤ 4) (b24 : bs.length < 24) (ho : os.length ≤ 100) (ha : as.length = os.length) (po : ∀ d ∈ os, PlaceOk d) (wa : as.all kindB = true) :
    ∃ os' as' s13', sFor (fRng1 (fCons (fAll lenF (fCons (fVarV 11) fNil)) fNil)) (.one 13) B_more (ei ks s3 (.ow (.dat (.list os))) (.ow (.dat (.list as))) (.ow (.dat (.list bs))) s7 s8 s9 s10 (.fz (.dat (.list cs))) s12 s13 s14 s15) S = .nx (ei ks s3 (.ow (.dat (.list os'))) (.ow (.dat (.list as'))) (.ow (.dat (.list bs))) s7 s8 s9 s10 (.fz (.dat (.list cs))) s12 s13' s14 s15) S ∧ os'.length = os.length + m ∧ as'.length = os'.length ∧ (∀ d ∈ os', PlaceOk d) ∧ as'.all kindB = true := by
  obtain ⟨ρ', S', e, rfl, os', as', s13', rfl, h1, h2, h3, h4⟩ := sFor_inv (t := .one 13) (f := B_more) (lf := fRng1 (fCons (fAll lenF (fCons (fVarV 11) fNil)) fNil)) (ds := rngFrom 0 cs.length)
    (ρ := ei ks s3 (.ow (.dat (.list os))) (.ow (.dat (.list as))) (.ow (.dat (.list bs))) s7 s8 s9 s10 (.fz (.dat (.list cs))) s12 s13 s14 s15) (S := S) (S1 := S)
    (fun j ρ S' => S' = S ∧ ∃ os' as' s13', ρ = ei ks s3 (.ow (.dat (.list os'))) (.ow (.dat (.list as'))) (.ow (.dat (.list bs))) s7 s8 s9 s10 (.fz (.dat (.list cs))) s12 s13' s14 s15 ∧ os'.length = os.length + j ∧ as'.length = os'.length ∧ (∀ d ∈ os', PlaceOk d) ∧ as'.all kindB = true)
    (rng1_eq (by simp [ei, fCons, fAll, fVarV, lenF]) (by omega)) (fun j d ρ S2 hd hi => by
      obtain ⟨rfl, os', as', s13', rfl, h1, h2, h3, h4⟩ := hi
      obtain ⟨rfl, jl⟩ := rngFrom_at hd
      rw [Nat.zero_add]
      have atj : atI cs (j : Int) = some cs[j] := atI_nat (List.getElem?_eq_getElem jl)
      have c1 : os'.length < 16000000 := by omega
      have c2 : as'.length < 16000000 := by omega
      refine ⟨ei ks s3 (.ow (.dat (.list os'))) (.ow (.dat (.list as'))) (.ow (.dat (.list bs))) s7 s8 s9 s10 (.fz (.dat (.list cs))) s12 (.fz (.dat (.int j))) s14 s15, ei ks s3 (.ow (.dat (.list (os' ++ [.tuple [.int bs.length, .int j]])))) (.ow (.dat (.list (as' ++ [cs[j]])))) (.ow (.dat (.list bs))) s7 s8 s9 s10 (.fz (.dat (.list cs))) s12 (.fz (.dat (.int j))) s14 s15, S2, rfl, ?_, rfl, _, _, _, rfl, ?_, ?_, ?_, ?_⟩
      · unfold B_more
        simp [ei, sSeq, sDropM, SOut.letV, fMut, fCons, fAll, fVarV, fVar, lenF, tupF, datsOf, appF, fOpE, idxV, atj, c1, c2]
      · simp; omega
      · simp; omega
      · intro d m
        rcases List.mem_append.mp m with m | m
        · exact h3 d m
        · obtain rfl := List.mem_singleton.mp m
          exact ⟨_, _, rfl, .inr ⟨bs.length, b24, rfl⟩⟩
      · rw [List.all_append, h4]
        simp [List.all_eq_true.mp hc _ (List.getElem_mem jl)]) ⟨rfl, os, as, s13, rfl, rfl, ha, po, wa⟩
  rw [rngFrom_len] at h1
  exact ⟨os', as', s13', e, by rw [hm]; exact h1, h2, h3, h4⟩
end
end K02

namespace K02
open PySem PySem.Spec PyProof.Rows L2 L2.HL
section
variable {ks : List PyData} {s3 s4 s5 s6 s7 s8 s9 s10 s11 s12 s13 s14 s15 : Sl} {S S1 : Src} {t : Nat}
theorem sSeq_nx {f g : SF} {ρ ρ' : En} {S S' : Src} (h : f ρ S = .nx ρ' S') : sSeq f g ρ S = g ρ' S' := by
  unfold sSeq
  rw [h]
  rfl
theorem fMut_ok {i : Nat} {F : List PyData → List Vl → Option (List PyData × PyData)} {g : AF} {ρ : En} {S S1 : Src} {ds ds' : List PyData} {xs : List Vl} {d : PyData} (h : ρ[i]? = some (.ow (.dat (.list ds)))) (hg : g ρ S = .ok xs S1) (hF : F ds xs = some (ds', d)) : fMut i F g ρ S = .ok (.dat d, ρ.set i (.ow (.dat (.list ds')))) S1 := by
  unfold fMut
  rw [h]
  dsimp only
  rw [hg, Out.bind_ok, hF]
theorem sParM_ok {i j : Nat} {f1 f2 : MF} {ρ ρ1 ρ2 : En} {S S1 S2 : Src} {d : PyData} {y : Vl} (h1 : f1 ρ S = .ok (.dat d, ρ1) S1) (h2 : f2 ρ1 S1 = .ok (y, ρ2) S2) : sParM i j f1 f2 ρ S = .nx ((ρ2.set i (.fz (.dat d))).set j (.fz y)) S2 := by
  unfold sParM
  rw [h1]
  dsimp only [SOut.letV]
  rw [h2]
def B_one : SF := (sSeq (sSet 7 (fCall F__law_draw (fCons (fVar 0) (fCons (fAll lenF (fCons (fVarV 4) fNil)) fNil))))
    (sSeq (sParM 8 9 (fMut 4 popF (fCons (fVar 7) fNil)) (fMut 5 popF (fCons (fVar 7) fNil)))
    (sSeq (sSet 10 (fAll minF (fCons (fC (.int 4)) (fCons (fOp subV (fOp subV (fOp subV (fVarV 1) (fAll lenF (fCons (fVarV 6) fNil))) (fAll lenF (fCons (fVarV 4) fNil))) (fC (.int 1))) fNil))))
    (sSeq (sSet 11 (fLc (fRng1 (fCons (fAll minF (fCons (fVarV 10) (fCons (fCall F__law_draw (fCons (fVar 0) (fCons (fC (.int 5)) fNil))) fNil))) fNil)) (.one 14) [14] (fun _ S => .ok true S) (fCall F__law_pick (fCons (fVar 0) (fCons (fVar 2) fNil)))))
    (sSeq (sSet 12 (fLc (fItW (fVarV 6)) (.one 15) [15] (fAnd (fCp eqD (fOpE idxV (fVarV 15) (fC (.int 0))) (fVarV 9)) (fCp leD (fAll lenF (fCons (fOpE idxV (fVarV 15) (fC (.int 1))) fNil)) (fVarV 10))) (fOpE idxV (fVarV 15) (fC (.int 1)))))
    (sSeq (sIf (fAnd (fCp neD (fVarV 12) (fAll lstF fNil)) (fCp eqD (fCall F__law_draw (fCons (fVar 0) (fCons (fC (.int 2)) fNil))) (fC (.int 0)))) (sSet 11 (fAll listF2 (fCons (fCall F__law_pick (fCons (fVar 0) (fCons (fVar 12) fNil))) fNil))) .nx)
    (sSeq (sFor (fRng1 (fCons (fAll lenF (fCons (fVarV 11) fNil)) fNil)) (.one 13) B_more)
    (sDropM (fMut 6 appF (fCons (fAll tupF (fCons (fVar 9) (fCons (fAll tupleF (fCons (fVarV 11) fNil)) (fCons (fVar 8) fNil)))) fNil))))))))))
/-- what the loop keeps -/
structure Lp (t : Nat) (os as bs : List PyData) (S : Src) : Prop where
  gd : Gd (t + 10 * bs.length) S
  same : as.length = os.length
  sum : os.length + bs.length ≤ 24
  some : 1 ≤ os.length + bs.length
  place : ∀ d ∈ os, PlaceOk d
  word : as.all kindB = true
  built : ∀ d ∈ bs, BuiltOk d
theorem built_len {d : PyData} (h : BuiltOk d) : ∃ k c p, d = .tuple [.str k, .tuple c, p] ∧ c.all kindB = true ∧ c.length ≤ 4 := by
  obtain ⟨k, c, p, e, _, a, b, _⟩ := h
  exact ⟨k, c, p, e, a, b⟩
def earP (k : Str) (L : Nat) : PyData → Bool
  | .tuple [.str x, .tuple c, _] => decide (x = k) && decide ((c.length : Int) ≤ L)
  | _ => false
def earG : PyData → PyData
  | .tuple [_, c, _] => c
  | _ => .none
theorem one_eq (hk : KindsOk ks) {os as bs : List PyData} (h : Lp t os as bs S) (ht : t ≤ 800000) (h0 : os ≠ []) :
    ∃ os' as' bs' s7' s8' s9' s10' s11' s12' s13' s14' s15' S', B_one (ei ks s3 (.ow (.dat (.list os))) (.ow (.dat (.list as))) (.ow (.dat (.list bs))) s7 s8 s9 s10 s11 s12 s13 s14 s15) S = .nx (ei ks s3 (.ow (.dat (.list os'))) (.ow (.dat (.list as'))) (.ow (.dat (.list bs'))) s7' s8' s9' s10' s11' s12' s13' s14' s15') S' ∧ bs'.length = bs.length + 1 ∧ Lp t os' as' bs' S' := by
  have ol : 0 < os.length := List.length_pos_iff.mpr h0
  have sm := h.sum
  obtain ⟨r, S1, e1, l1, g1⟩ := draw_eq (n := os.length) h.gd (by omega) ol (by omega)
  have ra : r < as.length := by rw [h.same]; exact l1
  have p1 := popF_eq l1 (by omega)
  have p2 := popF_eq ra (by have := h.same; omega)
  generalize hos : os.eraseIdx r = os1 at *
  generalize has : as.eraseIdx r = as1 at *
  have lo1 : os1.length + 1 = os.length := by rw [← hos, List.length_eraseIdx]; rw [if_pos l1]; omega
  have la1 : as1.length + 1 = as.length := by rw [← has, List.length_eraseIdx]; rw [if_pos ra]; omega
  have po1 : ∀ d ∈ os1, PlaceOk d := fun d m => h.place d (by rw [← hos] at m; exact List.mem_of_mem_eraseIdx m)
  have wa1 : as1.all kindB = true := List.all_eq_true.mpr fun d m => List.all_eq_true.mp h.word d (by rw [← has] at m; exact List.mem_of_mem_eraseIdx m)
  have pp : PlaceOk os[r] := h.place _ (List.getElem_mem l1)
  have wk : kindB as[r] = true := List.all_eq_true.mp h.word _ (List.getElem_mem ra)
  generalize os[r] = pl at *
  generalize as[r] = kd at *
  obtain ⟨kd, rfl⟩ := kindB_str wk
  obtain ⟨L, hL, L4, L23⟩ : ∃ L : Nat, minF [.dat (.int 4), .dat (.int (24 - (bs.length : Int) - (os1.length : Int) - 1))] = some (.dat (.int L)) ∧ L ≤ 4 ∧ L + bs.length + os1.length ≤ 23 := by
    by_cases c : (24 - (bs.length : Int) - (os1.length : Int) - 1) < 4
    · refine ⟨(24 - (bs.length : Int) - (os1.length : Int) - 1).toNat, ?_, by omega, by omega⟩
      rw [minF, if_pos c, Int.toNat_of_nonneg (by omega)]
    · exact ⟨4, by rw [minF, if_neg c]; rfl, by omega, by omega⟩
  obtain ⟨q, S2, e2, l2, g2⟩ := draw_eq (n := 5) g1 (by omega) (by omega) (by omega)
  obtain ⟨m, hm, m4, mL⟩ : ∃ m : Nat, minF [.dat (.int L), .dat (.int q)] = some (.dat (.int m)) ∧ m ≤ 4 ∧ m ≤ L := by
    by_cases c : (q : Int) < L
    · exact ⟨q, by rw [minF, if_pos c], by omega, by omega⟩
    · exact ⟨L, by rw [minF, if_neg c], L4, Nat.le_refl _⟩
  have e2' : F__law_draw [.src, .dat (.int 5)] S1 = .ok (.dat (.int q)) S2 := e2
  have rg : fRng1 (fCons (fAll minF (fCons (fVarV 10) (fCons (fCall F__law_draw (fCons (fVar 0) (fCons (fC (.int 5)) fNil))) fNil))) fNil) (ei ks s3 (.ow (.dat (.list os1))) (.ow (.dat (.list as1))) (.ow (.dat (.list bs))) (.fz (.dat (.int r))) (.fz (.dat pl)) (.fz (.dat (.str kd))) (.fz (.dat (.int L))) s11 s12 s13 s14 s15) S1 = .ok (rngFrom 0 m) S2 := by
    refine rng1_eq ?_ (by omega)
    simp [ei, fCons, fAll, fVarV, fVar, fCall, e2', hm]
  obtain ⟨cs, S3, e3, cl, cw, g3⟩ := picks_eq hk rg m4 g2 (by omega)
  -- the slots of earlier ones alike
  have sb : ∀ d ∈ bs, ∃ k c p, d = .tuple [.str k, .tuple c, p] ∧ c.all kindB = true ∧ c.length ≤ 4 := fun d m => built_len (h.built d m)
  have ear : fLc (fItW (fVarV 6)) (.one 15) [15] (fAnd (fCp eqD (fOpE idxV (fVarV 15) (fC (.int 0))) (fVarV 9)) (fCp leD (fAll lenF (fCons (fOpE idxV (fVarV 15) (fC (.int 1))) fNil)) (fVarV 10))) (fOpE idxV (fVarV 15) (fC (.int 1))) (ei ks s3 (.ow (.dat (.list os1))) (.ow (.dat (.list as1))) (.ow (.dat (.list bs))) (.fz (.dat (.int r))) (.fz (.dat pl)) (.fz (.dat (.str kd))) (.fz (.dat (.int L))) (.fz (.dat (.list cs))) s12 s13 s14 s15) S3 = .ok (.dat (.list ((bs.filter (earP kd L)).map earG))) S3 := by
    refine lc_pure (ds := bs) (by simp [ei, fItW, fVarV, itW]) (earP kd L) earG (fun d m => ?_) (by omega)
    obtain ⟨k, c, p, rfl, _, _⟩ := sb d m
    refine ⟨ei ks s3 (.ow (.dat (.list os1))) (.ow (.dat (.list as1))) (.ow (.dat (.list bs))) (.fz (.dat (.int r))) (.fz (.dat pl)) (.fz (.dat (.str kd))) (.fz (.dat (.int L))) (.fz (.dat (.list cs))) s12 s13 s14 (.fz (.dat (.tuple [.str k, .tuple c, p]))), rfl, ?_, fun _ => ?_⟩
    · have q0 : atI [PyData.str k, .tuple c, p] 0 = some (.str k) := rfl
      have q1 : atI [PyData.str k, .tuple c, p] 1 = some (.tuple c) := rfl
      by_cases ek : k = kd
      · subst ek
        simp [ei, fAnd, fCp, cpF, fOpE, fVarV, idxV, q0, q1, fAll, fCons, lenF, earP]
      · simp [ei, fAnd, fCp, cpF, fOpE, fVarV, idxV, q0, q1, fAll, fCons, lenF, earP, ek]
    · have q1 : atI [PyData.str k, .tuple c, p] 1 = some (.tuple c) := rfl
      simp [ei, fOpE, fVarV, idxV, q1, earG]
  have earOk : ∀ d ∈ (bs.filter (earP kd L)).map earG, ∃ c, d = .tuple c ∧ c.all kindB = true ∧ c.length ≤ 4 ∧ c.length ≤ L := fun d m => by
    obtain ⟨b, mb, rfl⟩ := List.mem_map.mp m
    obtain ⟨mb, pb⟩ := List.mem_filter.mp mb
    obtain ⟨k, c, p, rfl, h1, h2⟩ := sb b mb
    have : (decide (k = kd) && decide ((c.length : Int) ≤ L)) = true := pb
    rw [Bool.and_eq_true] at this
    have := of_decide_eq_true this.2
    exact ⟨c, rfl, h1, h2, by omega⟩
  have earLen : ((bs.filter (earP kd L)).map earG).length ≤ 24 := by
    rw [List.length_map]
    exact Nat.le_trans (List.length_filter_le _ _) (by omega)
  generalize (bs.filter (earP kd L)).map earG = es at *
  -- the slots, in the end
  obtain ⟨c2, S4, e4, w4, c24, c2L, g4⟩ : ∃ c2 S4, (sIf (fAnd (fCp neD (fVarV 12) (fAll lstF fNil)) (fCp eqD (fCall F__law_draw (fCons (fVar 0) (fCons (fC (.int 2)) fNil))) (fC (.int 0)))) (sSet 11 (fAll listF2 (fCons (fCall F__law_pick (fCons (fVar 0) (fCons (fVar 12) fNil))) fNil))) .nx) (ei ks s3 (.ow (.dat (.list os1))) (.ow (.dat (.list as1))) (.ow (.dat (.list bs))) (.fz (.dat (.int r))) (.fz (.dat pl)) (.fz (.dat (.str kd))) (.fz (.dat (.int L))) (.fz (.dat (.list cs))) (.fz (.dat (.list es))) s13 s14 s15) S3 = .nx (ei ks s3 (.ow (.dat (.list os1))) (.ow (.dat (.list as1))) (.ow (.dat (.list bs))) (.fz (.dat (.int r))) (.fz (.dat pl)) (.fz (.dat (.str kd))) (.fz (.dat (.int L))) (.fz (.dat (.list c2))) (.fz (.dat (.list es))) s13 s14 s15) S4 ∧ c2.all kindB = true ∧ c2.length ≤ 4 ∧ c2.length ≤ L ∧ Gd (t + 10 * bs.length + 1 + 1 + m + 2) S4 := by
    by_cases he : es = []
    · refine ⟨cs, S3, ?_, cw, by omega, by omega, g3.mono (by omega)⟩
      subst he
      simp [ei, sIf, SOut.letV, fAnd, fCp, cpF, fVarV, fAll, lstF, datsOf]
    · have hee : es.isEmpty = false := by cases es with | nil => exact absurd rfl he | cons _ _ => rfl
      obtain ⟨z, S4, ez, lz, gz⟩ := draw_eq (n := 2) g3 (by omega) (by omega) (by omega)
      have ez' : F__law_draw [.src, .dat (.int 2)] S3 = .ok (.dat (.int z)) S4 := ez
      by_cases hz : z = 0
      · subst hz
        obtain ⟨x, mx, S5, ex, gx⟩ := pick_eq (xs := es) gz (by omega) he (by omega)
        obtain ⟨c, rfl, cw, c4, cL⟩ := earOk x mx
        refine ⟨c, S5, ?_, cw, c4, cL, gx.mono (by omega)⟩
        have ez'' : F__law_draw [.src, .dat (.int 2)] S3 = .ok (.dat (.int 0)) S4 := ez
        simp [ei, sIf, SOut.letV, fAnd, fCp, cpF, fVarV, fVar, fAll, lstF, datsOf, hee, fCall, fCons, ez'', sSet, ex, listF2, listF]
      · refine ⟨cs, S4, ?_, cw, by omega, by omega, gz.mono (by omega)⟩
        have hz' : ¬ (z : Int) = 0 := by omega
        simp [ei, sIf, SOut.letV, fAnd, fCp, cpF, fVarV, fVar, fAll, lstF, datsOf, hee, fCall, fCons, ez', hz', hz]
  obtain ⟨os', as', s13', e5, ho', ha', po', wa'⟩ := more_eq (ks := ks) (s3 := s3) (s7 := .fz (.dat (.int r))) (s8 := .fz (.dat pl)) (s9 := .fz (.dat (.str kd))) (s10 := .fz (.dat (.int L))) (s12 := .fz (.dat (.list es))) (s13 := s13) (s14 := s14) (s15 := s15) (S := S4) (os := os1) (as := as1) (bs := bs) (cs := c2) rfl w4 c24 (by omega) (by omega) (by have := h.same; omega) po1 wa1
  refine ⟨os', as', bs ++ [.tuple [.str kd, .tuple c2, pl]], .fz (.dat (.int r)), .fz (.dat pl), .fz (.dat (.str kd)), .fz (.dat (.int L)), .fz (.dat (.list c2)), .fz (.dat (.list es)), s13', s14, s15, S4, ?_, by simp, ⟨?_, ha', ?_, ?_, po', wa', ?_⟩⟩
  rotate_left
  · rw [List.length_append]; exact g4.mono (by simp; omega)
  · rw [List.length_append]; simp; omega
  · rw [List.length_append]; simp; omega
  · intro d md
    rcases List.mem_append.mp md with md | md
    · exact h.built d md
    · obtain rfl := List.mem_singleton.mp md
      exact ⟨kd, c2, pl, rfl, wk, w4, c24, pp⟩
  · have t1 : (sSet 7 (fCall F__law_draw (fCons (fVar 0) (fCons (fAll lenF (fCons (fVarV 4) fNil)) fNil)))) (ei ks s3 (.ow (.dat (.list os))) (.ow (.dat (.list as))) (.ow (.dat (.list bs))) s7 s8 s9 s10 s11 s12 s13 s14 s15) S = .nx (ei ks s3 (.ow (.dat (.list os))) (.ow (.dat (.list as))) (.ow (.dat (.list bs))) (.fz (.dat (.int r))) s8 s9 s10 s11 s12 s13 s14 s15) S1 := by
      simp [ei, sSet, SOut.letV, fCall, fCons, fVar, fVarV, fAll, lenF, e1]
    have t2 : (sParM 8 9 (fMut 4 popF (fCons (fVar 7) fNil)) (fMut 5 popF (fCons (fVar 7) fNil))) (ei ks s3 (.ow (.dat (.list os))) (.ow (.dat (.list as))) (.ow (.dat (.list bs))) (.fz (.dat (.int r))) s8 s9 s10 s11 s12 s13 s14 s15) S1 = .nx (ei ks s3 (.ow (.dat (.list os1))) (.ow (.dat (.list as1))) (.ow (.dat (.list bs))) (.fz (.dat (.int r))) (.fz (.dat pl)) (.fz (.dat (.str kd))) s10 s11 s12 s13 s14 s15) S1 := by
      have a1 : fCons (fVar 7) fNil (ei ks s3 (.ow (.dat (.list os))) (.ow (.dat (.list as))) (.ow (.dat (.list bs))) (.fz (.dat (.int r))) s8 s9 s10 s11 s12 s13 s14 s15) S1 = .ok [.dat (.int r)] S1 := by simp [ei, fCons, fVar]
      have a2 : fCons (fVar 7) fNil (ei ks s3 (.ow (.dat (.list os1))) (.ow (.dat (.list as))) (.ow (.dat (.list bs))) (.fz (.dat (.int r))) s8 s9 s10 s11 s12 s13 s14 s15) S1 = .ok [.dat (.int r)] S1 := by simp [ei, fCons, fVar]
      exact sParM_ok (ρ1 := ei ks s3 (.ow (.dat (.list os1))) (.ow (.dat (.list as))) (.ow (.dat (.list bs))) (.fz (.dat (.int r))) s8 s9 s10 s11 s12 s13 s14 s15) (ρ2 := ei ks s3 (.ow (.dat (.list os1))) (.ow (.dat (.list as1))) (.ow (.dat (.list bs))) (.fz (.dat (.int r))) s8 s9 s10 s11 s12 s13 s14 s15) (fMut_ok rfl a1 p1) (fMut_ok rfl a2 p2)
    have t3 : (sSet 10 (fAll minF (fCons (fC (.int 4)) (fCons (fOp subV (fOp subV (fOp subV (fVarV 1) (fAll lenF (fCons (fVarV 6) fNil))) (fAll lenF (fCons (fVarV 4) fNil))) (fC (.int 1))) fNil)))) (ei ks s3 (.ow (.dat (.list os1))) (.ow (.dat (.list as1))) (.ow (.dat (.list bs))) (.fz (.dat (.int r))) (.fz (.dat pl)) (.fz (.dat (.str kd))) s10 s11 s12 s13 s14 s15) S1 = .nx (ei ks s3 (.ow (.dat (.list os1))) (.ow (.dat (.list as1))) (.ow (.dat (.list bs))) (.fz (.dat (.int r))) (.fz (.dat pl)) (.fz (.dat (.str kd))) (.fz (.dat (.int L))) s11 s12 s13 s14 s15) S1 := by
      simp [ei, sSet, SOut.letV, fAll, fCons, fOp, opF, subV, intV, fVarV, lenF, hL]
    have t4 : ∀ u : EF, u (ei ks s3 (.ow (.dat (.list os1))) (.ow (.dat (.list as1))) (.ow (.dat (.list bs))) (.fz (.dat (.int r))) (.fz (.dat pl)) (.fz (.dat (.str kd))) (.fz (.dat (.int L))) s11 s12 s13 s14 s15) S1 = .ok (.dat (.list cs)) S3 → sSet 11 u (ei ks s3 (.ow (.dat (.list os1))) (.ow (.dat (.list as1))) (.ow (.dat (.list bs))) (.fz (.dat (.int r))) (.fz (.dat pl)) (.fz (.dat (.str kd))) (.fz (.dat (.int L))) s11 s12 s13 s14 s15) S1 = .nx (ei ks s3 (.ow (.dat (.list os1))) (.ow (.dat (.list as1))) (.ow (.dat (.list bs))) (.fz (.dat (.int r))) (.fz (.dat pl)) (.fz (.dat (.str kd))) (.fz (.dat (.int L))) (.fz (.dat (.list cs))) s12 s13 s14 s15) S3 := fun u hu => by
      unfold sSet
      rw [hu]
      rfl
    have t5 : ∀ u : EF, u (ei ks s3 (.ow (.dat (.list os1))) (.ow (.dat (.list as1))) (.ow (.dat (.list bs))) (.fz (.dat (.int r))) (.fz (.dat pl)) (.fz (.dat (.str kd))) (.fz (.dat (.int L))) (.fz (.dat (.list cs))) s12 s13 s14 s15) S3 = .ok (.dat (.list es)) S3 → sSet 12 u (ei ks s3 (.ow (.dat (.list os1))) (.ow (.dat (.list as1))) (.ow (.dat (.list bs))) (.fz (.dat (.int r))) (.fz (.dat pl)) (.fz (.dat (.str kd))) (.fz (.dat (.int L))) (.fz (.dat (.list cs))) s12 s13 s14 s15) S3 = .nx (ei ks s3 (.ow (.dat (.list os1))) (.ow (.dat (.list as1))) (.ow (.dat (.list bs))) (.fz (.dat (.int r))) (.fz (.dat pl)) (.fz (.dat (.str kd))) (.fz (.dat (.int L))) (.fz (.dat (.list cs))) (.fz (.dat (.list es))) s13 s14 s15) S3 := fun u hu => by
      unfold sSet
      rw [hu]
      rfl
    have b1 : bs.length < 16000000 := by omega
    have t8 : (sDropM (fMut 6 appF (fCons (fAll tupF (fCons (fVar 9) (fCons (fAll tupleF (fCons (fVarV 11) fNil)) (fCons (fVar 8) fNil)))) fNil))) (ei ks s3 (.ow (.dat (.list os'))) (.ow (.dat (.list as'))) (.ow (.dat (.list bs))) (.fz (.dat (.int r))) (.fz (.dat pl)) (.fz (.dat (.str kd))) (.fz (.dat (.int L))) (.fz (.dat (.list c2))) (.fz (.dat (.list es))) s13' s14 s15) S4 = .nx (ei ks s3 (.ow (.dat (.list os'))) (.ow (.dat (.list as'))) (.ow (.dat (.list (bs ++ [.tuple [.str kd, .tuple c2, pl]])))) (.fz (.dat (.int r))) (.fz (.dat pl)) (.fz (.dat (.str kd))) (.fz (.dat (.int L))) (.fz (.dat (.list c2))) (.fz (.dat (.list es))) s13' s14 s15) S4 := by
      simp [ei, sDropM, SOut.letV, fMut, fCons, fAll, fVar, fVarV, tupF, tupleF, datsOf, appF, b1]
    exact (sSeq_nx t1).trans ((sSeq_nx t2).trans ((sSeq_nx t3).trans ((sSeq_nx (t4 _ e3)).trans ((sSeq_nx (t5 _ ear)).trans ((sSeq_nx e4).trans ((sSeq_nx e5).trans t8))))))
end
end K02

namespace K02
open PySem PySem.Spec PyProof.Rows L2 L2.HL
section
variable {ks : List PyData} {s3 s4 s5 s6 s7 s8 s9 s10 s11 s12 s13 s14 s15 : Sl} {S S1 : Src} {t : Nat}
def B_open : BF := fCp neD (fVarV 4) (fAll lstF fNil)
theorem open_eq {os : List PyData} {s5 s6 : Sl} : B_open (ei ks s3 (.ow (.dat (.list os))) s5 s6 s7 s8 s9 s10 s11 s12 s13 s14 s15) S = .ok (!os.isEmpty) S := by
  unfold B_open
  simp [ei, fCp, cpF, fVarV, fAll, lstF, datsOf]
theorem sWhile_stop {b : BF} {f : SF} {n : Nat} {ρ : En} {S S1 : Src} (h : b ρ S = .ok false S1) : sWhile b f (n + 1) ρ S = .nx ρ S1 := by
  rw [sWhile]
  dsimp only
  rw [h]
  rfl
theorem sWhile_nx {b : BF} {f : SF} {n : Nat} {ρ ρ' : En} {S S1 S' : Src} (h : b ρ S = .ok true S1) (hf : f ρ S1 = .nx ρ' S') : sWhile b f (n + 1) ρ S = sWhile b f n ρ' S' := by
  rw [sWhile]
  dsimp only
  rw [h]
  dsimp only [SOut.letV]
  rw [if_pos rfl, hf]
theorem while_eq (hk : KindsOk ks) (ht : t ≤ 800000) : ∀ (n : Nat) (os as bs : List PyData) (s7 s8 s9 s10 s11 s12 s13 s14 s15 : Sl) (S : Src), Lp t os as bs S → 24 - bs.length < n →
    ∃ bs' s4' s5' s7' s8' s9' s10' s11' s12' s13' s14' s15' S', sWhile B_open B_one n (ei ks s3 (.ow (.dat (.list os))) (.ow (.dat (.list as))) (.ow (.dat (.list bs))) s7 s8 s9 s10 s11 s12 s13 s14 s15) S = .nx (ei ks s3 s4' s5' (.ow (.dat (.list bs'))) s7' s8' s9' s10' s11' s12' s13' s14' s15') S' ∧ 1 ≤ bs'.length ∧ bs'.length ≤ 24 ∧ (∀ d ∈ bs', BuiltOk d) ∧ Gd (t + 240) S'
  | 0, os, as, bs, s7, s8, s9, s10, s11, s12, s13, s14, s15, S, h, hn => absurd hn (Nat.not_lt_zero _)
  | n + 1, os, as, bs, s7, s8, s9, s10, s11, s12, s13, s14, s15, S, h, hn => by
    by_cases h0 : os = []
    · have c : B_open (ei ks s3 (.ow (.dat (.list os))) (.ow (.dat (.list as))) (.ow (.dat (.list bs))) s7 s8 s9 s10 s11 s12 s13 s14 s15) S = .ok false S := by rw [open_eq, h0]; rfl
      have s := h.some
      have u := h.sum
      have o0 : os.length = 0 := by rw [h0]; rfl
      exact ⟨bs, _, _, _, _, _, _, _, _, _, _, _, S, sWhile_stop c, by omega, by omega, h.built, h.gd.mono (by omega)⟩
    · have c : B_open (ei ks s3 (.ow (.dat (.list os))) (.ow (.dat (.list as))) (.ow (.dat (.list bs))) s7 s8 s9 s10 s11 s12 s13 s14 s15) S = .ok true S := by
        rw [open_eq]
        cases os with
        | nil => exact absurd rfl h0
        | cons _ _ => rfl
      obtain ⟨os', as', bs', r7, r8, r9, r10, r11, r12, r13, r14, r15, S', e, hl, h'⟩ := one_eq (s3 := s3) (s7 := s7) (s8 := s8) (s9 := s9) (s10 := s10) (s11 := s11) (s12 := s12) (s13 := s13) (s14 := s14) (s15 := s15) hk h ht h0
      have u := h'.sum
      obtain ⟨bs'', q4, q5, q7, q8, q9, q10, q11, q12, q13, q14, q15, S'', e2, r⟩ := while_eq hk ht n os' as' bs' r7 r8 r9 r10 r11 r12 r13 r14 r15 S' h' (by omega)
      exact ⟨bs'', q4, q5, q7, q8, q9, q10, q11, q12, q13, q14, q15, S'', by rw [sWhile_nx c e, e2], r⟩
theorem open_first {rs : List PyData} (h1 : 1 ≤ rs.length) (h4 : rs.length ≤ 4) : ∃ os, fLc (fRng1 (fCons (fAll lenF (fCons (fVarV 3) fNil)) fNil)) (.one 13) [13] (fun _ S => .ok true S) (fAll tupF (fCons (fC (.str "")) (fCons (fVar 13) fNil))) (ei ks (.fz (.dat (.tuple rs))) .no .no .no .no .no .no .no .no .no .no s14 s15) S = .ok (.dat (.list os)) S ∧ os.length = rs.length ∧ ∀ d ∈ os, PlaceOk d := by
  have rg : fRng1 (fCons (fAll lenF (fCons (fVarV 3) fNil)) fNil) (ei ks (.fz (.dat (.tuple rs))) .no .no .no .no .no .no .no .no .no .no s14 s15) S = .ok (rngFrom 0 rs.length) S := rng1_eq (by simp [ei, fCons, fAll, fVarV, lenF]) (by omega)
  refine ⟨(rngFrom 0 rs.length).map fun d => .tuple [.str "", d], lc_map rg _ (fun d m => ⟨ei ks (.fz (.dat (.tuple rs))) .no .no .no .no .no .no .no .no .no (.fz (.dat d)) s14 s15, rfl, by simp [ei, fAll, fCons, fVar, tupF, datsOf]⟩) (by rw [rngFrom_len]; omega), by rw [List.length_map, rngFrom_len], fun d m => ?_⟩
  obtain ⟨x, mx, rfl⟩ := List.mem_map.mp m
  obtain ⟨j, hj⟩ := List.getElem?_of_mem mx
  obtain ⟨rfl, _⟩ := rngFrom_at hj
  exact ⟨_, _, rfl, .inl rfl⟩
theorem sSet_ok {i : Nat} {u : EF} {ρ : En} {S S' : Src} {x : Vl} (h : u ρ S = .ok x S') : sSet i u ρ S = .nx (ρ.set i (.fz x)) S' := by
  unfold sSet
  rw [h]
  rfl
theorem sOwn_ok {i : Nat} {u : EF} {ρ : En} {S S' : Src} {x : Vl} (h : u ρ S = .ok x S') (hb : x.box = true) : sOwn i u ρ S = .nx (ρ.set i (.ow x)) S' := by
  unfold sOwn
  rw [h]
  dsimp only [SOut.letV]
  rw [if_pos hb]
theorem fAll_ok {F : List Vl → Option Vl} {g : AF} {ρ : En} {S S' : Src} {xs : List Vl} {r : Vl} (h : g ρ S = .ok xs S') (hF : F xs = some r) : fAll F g ρ S = .ok r S' := by
  unfold fAll
  rw [h, Out.bind_ok, hF]
  rfl
theorem fCons_ok {f : EF} {g : AF} {ρ : En} {S S1 S2 : Src} {x : Vl} {xs : List Vl} (h : f ρ S = .ok x S1) (hg : g ρ S1 = .ok xs S2) : fCons f g ρ S = .ok (x :: xs) S2 := by
  unfold fCons
  rw [h, Out.bind_ok, hg]
  rfl
theorem items_eq (hk : KindsOk ks) (g : Gd t S) (ht : t ≤ 700000) : ∃ rs bs S', F__law_items [.src, .dat (.int 24), .dat (.list ks)] S = .ok (.dat (.tuple [.tuple rs, .list bs])) S' ∧ 1 ≤ rs.length ∧ rs.length ≤ 4 ∧ rs.all kindB = true ∧ 1 ≤ bs.length ∧ bs.length ≤ 24 ∧ (∀ d ∈ bs, BuiltOk d) ∧ Gd (t + 300) S' := by
  obtain ⟨m, S1, e1, m1, m4, g1⟩ := rootcount (ks := ks) (s3 := .no) (s4 := .no) (s5 := .no) (s6 := .no) (s7 := .no) (s8 := .no) (s9 := .no) (s10 := .no) (s11 := .no) (s12 := .no) (s13 := .no) (s14 := .no) (s15 := .no) g (by omega)
  obtain ⟨rs, S2, e2, rl, rw', g2⟩ := picks_eq hk e1 m4 g1 (by omega)
  obtain ⟨os, e3, ol, po⟩ := open_first (ks := ks) (S := S2) (rs := rs) (s14 := .no) (s15 := .no) (by omega) (by omega)
  obtain ⟨bs, s4, s5, s7, s8, s9, s10, s11, s12, s13, s14, s15, S', e4, b1, b24, hb, g4⟩ := while_eq (s3 := .fz (.dat (.tuple rs))) hk (t := t + 6) (by omega) 1000 os rs [] .no .no .no .no .no .no .no .no .no S2 ⟨g2.mono (by simp; omega), by omega, by simp; omega, by simp; omega, po, rw', fun _ m => absurd m List.not_mem_nil⟩ (by omega)
  refine ⟨rs, bs, S', ?_, by omega, by omega, rw', b1, b24, hb, g4.mono (by omega)⟩
  show defF 16 3 B__law_items _ _ = _
  rw [defF_eq (by rfl)]
  show (B__law_items (ei ks .no .no .no .no .no .no .no .no .no .no .no .no .no) S).out = _
  have t1 : sSet 3 (fAll tupleF (fCons (fLc (fRng1 (fCons (fOp addV (fC (.int 1)) (fCall F__law_draw (fCons (fVar 0) (fCons (fOpE idxV (fAll lstF (fCons (fC (.int 1)) (fCons (fC (.int 2)) (fCons (fC (.int 4)) fNil)))) (fCall F__law_draw (fCons (fVar 0) (fCons (fC (.int 3)) fNil)))) fNil)))) fNil)) (.one 14) [14] (fun _ S => .ok true S) (fCall F__law_pick (fCons (fVar 0) (fCons (fVar 2) fNil)))) fNil)) (ei ks .no .no .no .no .no .no .no .no .no .no .no .no .no) S = .nx (ei ks (.fz (.dat (.tuple rs))) .no .no .no .no .no .no .no .no .no .no .no .no) S2 :=
    sSet_ok (fAll_ok (fCons_ok e2 (fNil_eq)) rfl)
  have t2 : sOwn 4 (fLc (fRng1 (fCons (fAll lenF (fCons (fVarV 3) fNil)) fNil)) (.one 13) [13] (fun _ S => .ok true S) (fAll tupF (fCons (fC (.str "")) (fCons (fVar 13) fNil)))) (ei ks (.fz (.dat (.tuple rs))) .no .no .no .no .no .no .no .no .no .no .no .no) S2 = .nx (ei ks (.fz (.dat (.tuple rs))) (.ow (.dat (.list os))) .no .no .no .no .no .no .no .no .no .no .no) S2 := sOwn_ok e3 rfl
  have t3 : sOwn 5 (fAll listF2 (fCons (fVarV 3) fNil)) (ei ks (.fz (.dat (.tuple rs))) (.ow (.dat (.list os))) .no .no .no .no .no .no .no .no .no .no .no) S2 = .nx (ei ks (.fz (.dat (.tuple rs))) (.ow (.dat (.list os))) (.ow (.dat (.list rs))) .no .no .no .no .no .no .no .no .no .no) S2 :=
    sOwn_ok (x := .dat (.list rs)) (by simp [ei, fAll, fCons, fVarV, listF2, listF]) rfl
  have t4 : sOwn 6 (fAll lstF fNil) (ei ks (.fz (.dat (.tuple rs))) (.ow (.dat (.list os))) (.ow (.dat (.list rs))) .no .no .no .no .no .no .no .no .no .no) S2 = .nx (ei ks (.fz (.dat (.tuple rs))) (.ow (.dat (.list os))) (.ow (.dat (.list rs))) (.ow (.dat (.list []))) .no .no .no .no .no .no .no .no .no) S2 :=
    sOwn_ok (x := .dat (.list [])) (by simp [fAll, lstF, datsOf]) rfl
  have t6 : sFz 6 (sRet (fAll tupF (fCons (fVar 3) (fCons (fVar 6) fNil)))) (ei ks (.fz (.dat (.tuple rs))) s4 s5 (.ow (.dat (.list bs))) s7 s8 s9 s10 s11 s12 s13 s14 s15) S' = .rt (.dat (.tuple [.tuple rs, .list bs])) S' := by
    simp [ei, sFz, sRet, SOut.letV, fAll, fCons, fVar, tupF, datsOf]
  have all : B__law_items (ei ks .no .no .no .no .no .no .no .no .no .no .no .no .no) S = .rt (.dat (.tuple [.tuple rs, .list bs])) S' :=
    (sSeq_nx t1).trans ((sSeq_nx t2).trans ((sSeq_nx t3).trans ((sSeq_nx t4).trans ((sSeq_nx e4).trans t6))))
  rw [all]
  rfl
end
end K02

namespace K02
open PySem PySem.Spec PyProof.Rows L2 L2.HL
/-! ### slices -/
theorem cutP_take {xs : List PyData} (k : Nat) : cutP xs none (some (k : Int)) = xs.take k := by
  unfold cutP
  rw [HT.sIx_none, HT.sIx_nat, List.drop_zero, Nat.sub_zero]
  rcases Nat.le_total k xs.length with h | h
  · rw [Nat.min_eq_left h]
  · rw [Nat.min_eq_right h, List.take_of_length_le (Nat.le_refl _), List.take_of_length_le h]
theorem cutP_drop {xs : List PyData} (k : Nat) : cutP xs (some (k : Int)) none = xs.drop k := by
  unfold cutP
  rw [HT.sIx_none, HT.sIx_nat]
  rcases Nat.le_total k xs.length with h | h
  · rw [Nat.min_eq_left h, List.take_of_length_le (by rw [List.length_drop]; exact Nat.le_refl _)]
  · rw [Nat.min_eq_right h, Nat.sub_self, List.take_zero, List.drop_eq_nil_of_le h]
theorem cutP_mid {xs : List PyData} (i j : Nat) : ∀ d ∈ cutP xs (some (i : Int)) (some (j : Int)), d ∈ xs := fun d m => by
  unfold cutP at m
  exact List.mem_of_mem_drop (List.mem_of_mem_take m)
theorem cutP_mid_len {xs : List PyData} (i j : Nat) : (cutP xs (some (i : Int)) (some (j : Int))).length ≤ j - i := by
  unfold cutP
  rw [HT.sIx_nat, HT.sIx_nat, List.length_take, List.length_drop]
  omega
/-! ### words and items as values of bounded size -/
theorem letters_small : ∀ c ∈ letters.cps.toList, c < 1000 := by decide +kernel
theorem word_fit {d : PyData} (h : wordD d = true) (n : Nat) : fitL n d = true := by
  obtain ⟨x, rfl⟩ := wordD_str h
  have h2 : (decide (1 ≤ x.length ∧ x.length ≤ 8) && x.cps.toList.all fun c => decide (c ∈ letters.cps.toList)) = true := h
  rw [Bool.and_eq_true, decide_eq_true_eq, List.all_eq_true] at h2
  have f : fitS x = true := by
    unfold fitS
    rw [Bool.and_eq_true, decide_eq_true_eq, List.all_eq_true]
    exact ⟨by omega, fun c m => decide_eq_true (letters_small c (of_decide_eq_true (h2.2 c m)))⟩
  cases n with
  | zero => exact f
  | succ n => exact f
/-- an item as it is drawn -/
def ItemS (d : PyData) : Prop := ∃ a b c, d = .tuple [.str a, .str b, .tuple c] ∧ wordD (.str a) = true ∧ a ≠ "nobody" ∧ kindB (.str b) = true ∧ c.all kindB = true ∧ c.length ≤ 4
theorem tuple_fit {n : Nat} {ds : List PyData} (h : ∀ d ∈ ds, fitL n d = true) (hl : ds.length ≤ brk (n + 1)) : fitL (n + 1) (.tuple ds) = true := by
  show (decide (ds.length ≤ brk (n + 1)) && ds.all (fitL n)) = true
  rw [Bool.and_eq_true, decide_eq_true_eq, List.all_eq_true]
  exact ⟨hl, h⟩
theorem list_fit {n : Nat} {ds : List PyData} (h : ∀ d ∈ ds, fitL n d = true) (hl : ds.length ≤ brk (n + 1)) : fitL (n + 1) (.list ds) = true := tuple_fit h hl
theorem words_fit {c : List PyData} (h : c.all wordD = true) (n : Nat) : ∀ d ∈ c, fitL n d = true := fun d m => word_fit (List.all_eq_true.mp h d m) n
theorem item_fit {d : PyData} (h : ItemS d) : fitL 3 d = true := by
  obtain ⟨a, b, c, rfl, ha, _, hb, hc, hl⟩ := h
  replace hb := kindB_word hb
  replace hc := kindsB_words hc
  refine tuple_fit (n := 2) (fun d m => ?_) (by show 3 ≤ 4; omega)
  simp only [List.mem_cons, List.not_mem_nil, or_false] at m
  rcases m with rfl | rfl | rfl
  · exact word_fit ha 2
  · exact word_fit hb 2
  · exact tuple_fit (n := 1) (words_fit hc 1) (Nat.le_trans hl (by decide))
/-! ### sorting -/
theorem alike_words : ∀ {c e : List PyData}, c.all wordD = true → e.all wordD = true → PySem.W.alikeAll c e = true
  | [], e, _, _ => by rw [PySem.W.alikeAll]
  | x :: c, [], _, _ => by rw [PySem.W.alikeAll]
  | x :: c, y :: e, hx, hy => by
    rw [List.all_cons, Bool.and_eq_true] at hx hy
    obtain ⟨a, rfl⟩ := wordD_str hx.1
    obtain ⟨b, rfl⟩ := wordD_str hy.1
    rw [PySem.W.alikeAll, PySem.W.alike, alike_words hx.2 hy.2]
    rfl
theorem alike_items {d e : PyData} (h : ItemS d) (k : ItemS e) : PySem.W.alike d e = true := by
  obtain ⟨a, b, c, rfl, ha, _, hb, hc, hl⟩ := h
  obtain ⟨a', b', c', rfl, ha', _, hb', hc', hl'⟩ := k
  simp only [PySem.W.alike, PySem.W.alikeAll, alike_words (kindsB_words hc) (kindsB_words hc'), Bool.and_true]
theorem depthAll_of {n : Nat} : ∀ {ds : List PyData}, (∀ d ∈ ds, d.depth ≤ n) → PyData.depthAll ds ≤ n
  | [], _ => by rw [PyData.depthAll]; exact Nat.zero_le _
  | d :: ds, h => by
    rw [PyData.depthAll]
    exact Nat.max_le.mpr ⟨h d List.mem_cons_self, depthAll_of fun e m => h e (List.mem_cons_of_mem _ m)⟩
theorem sortOk_of {ds : List PyData} (ha : ∀ d ∈ ds, ∀ e ∈ ds, PySem.W.alike d e = true) (ht : ∀ d ∈ ds, ∃ x r, d = .tuple (x :: r)) (hd : ∀ d ∈ ds, d.depth ≤ 100) : sortOk ds = true := by
  unfold sortOk
  rw [Bool.and_eq_true, Bool.and_eq_true]
  refine ⟨⟨List.all_eq_true.mpr fun d m => List.all_eq_true.mpr fun e k => ha d m e k, ?_⟩, decide_eq_true (depthAll_of hd)⟩
  rw [Bool.or_eq_true]
  exact .inl (List.all_eq_true.mpr fun d m => by obtain ⟨x, r, rfl⟩ := ht d m; rfl)
theorem sortP_mem {ds : List PyData} : ∀ d ∈ sortP ds, d ∈ ds := fun d m => (List.mergeSort_perm ds _).mem_iff.mp m
theorem sortP_len {ds : List PyData} : (sortP ds).length = ds.length := (List.mergeSort_perm ds _).length_eq
theorem sorted_items {ds : List PyData} (h : ∀ d ∈ ds, ItemS d) : sortedF2 [.dat (.list ds)] = some (.dat (.list (sortP ds))) := by
  have ok : sortOk ds = true := sortOk_of (fun d m e k => alike_items (h d m) (h e k)) (fun d m => by obtain ⟨a, b, c, rfl, _⟩ := h d m; exact ⟨_, _, rfl⟩) fun d m => Nat.le_trans (fit_of (item_fit (h d m))).dep (by decide)
  show (if sortOk ds = true then _ else _) = _
  rw [if_pos ok]
theorem sorted_keys {kvs : List (PyData × PyData)} (h : ∀ kv ∈ kvs, TupK kv.1) : sortedF2 [.dic kvs] = some (.dat (.list (sortP (kvs.map (·.1))))) := by
  have hk : ∀ d ∈ kvs.map (·.1), TupK d := fun d m => by
    obtain ⟨kv, mk, rfl⟩ := List.mem_map.mp m
    exact h kv mk
  have ok : sortOk (kvs.map (·.1)) = true := sortOk_of (fun d m e k => by
      obtain ⟨a, b, rfl⟩ := hk d m
      obtain ⟨a', b', rfl⟩ := hk e k
      simp only [PySem.W.alike, PySem.W.alikeAll, Bool.and_true]) (fun d m => by obtain ⟨a, b, rfl⟩ := hk d m; exact ⟨_, _, rfl⟩) fun d m => by
      obtain ⟨a, b, rfl⟩ := hk d m
      simp only [PyData.depth, PyData.depthAll]
      decide
  show (if sortOk (kvs.map (·.1)) = true then _ else _) = _
  rw [if_pos ok]
end K02

namespace K02
open PySem PySem.Spec PyProof.Rows L2 L2.HL
section
variable {s2 s3 s4 s5 s6 s7 s8 s9 s10 s11 s12 : Sl} {S S1 : Src} {t : Nat}
abbrev ev (s2 s3 s4 s5 s6 s7 s8 s9 s10 s11 s12 : Sl) : En := [.fz .src, .fz (.dat (.int 24)), s2, s3, s4, s5, s6, s7, s8, s9, s10, s11, s12]
def kinds6 : List PyData := [.str "k", .str "l", .str "kin", .str "root", .str "twelves", .str "zz"]
def pool16 : List PyData := [.str "a", .str "aa", .str "ab", .str "b", .str "bar", .str "c", .str "cap", .str "d", .str "dot", .str "e", .str "segments", .str "f", .str "g", .str "h", .str "i", .str "jar"]
def pool8 : List PyData := [.str "k", .str "lo", .str "m", .str "n", .str "oz", .str "p", .str "swap", .str "zz"]
theorem kinds6_words : ∀ d ∈ kinds6, kindB d = true := by
  intro d m
  unfold kinds6 at m
  simp only [List.mem_cons, List.not_mem_nil, or_false] at m
  rcases m with rfl | rfl | rfl | rfl | rfl | rfl <;> decide +kernel
theorem pool_words : ∀ d ∈ pool16 ++ pool8, wordD d = true := by
  intro d m
  unfold pool16 pool8 at m
  simp only [List.cons_append, List.nil_append, List.mem_cons, List.not_mem_nil, or_false] at m
  rcases m with rfl | rfl | rfl | rfl | rfl | rfl | rfl | rfl | rfl | rfl | rfl | rfl | rfl | rfl | rfl | rfl | rfl | rfl | rfl | rfl | rfl | rfl | rfl | rfl <;> decide +kernel
theorem tbl_of {kvs : List (PyData × PyData)} {a : Str} {b : Int} (h : ∀ kv ∈ kvs, TupK kv.1) : tblOk kvs (.tuple [.str a, .int b]) = true := by
  match kvs, h with
  | [], h => rfl
  | (k, d) :: r, h =>
    obtain ⟨x, y, rfl⟩ := h _ List.mem_cons_self
    rfl
def B_place : SF := (sSeq (sUnp (.many [9, 10]) (fOpE idxV (fOpE idxV (fVarV 5) (fVarV 8)) (fC (.int 2))))
    (sSeq (sIf (fCp neD (fVarV 9) (fC (.str ""))) (sSet 9 (fOpE idxV (fVarV 6) (fVarV 9))) .nx)
    (sPutD 7 (fAll tupF (fCons (fVar 9) (fCons (fVar 10) fNil))) (fOpE idxV (fVarV 6) (fVarV 8)))))
theorem places_eq {bs ps : List PyData} (b24 : bs.length ≤ 24) (hb : ∀ d ∈ bs, BuiltOk d) (pl : ps.length = 24) (pw : ∀ d ∈ ps, wordD d = true) :
    ∃ kvs s8' s9' s10', sFor (fRng1 (fCons (fAll lenF (fCons (fVarV 5) fNil)) fNil)) (.one 8) B_place (ev s2 s3 s4 (.fz (.dat (.list bs))) (.fz (.dat (.list ps))) (.ow (.dic [])) s8 s9 s10 s11 s12) S = .nx (ev s2 s3 s4 (.fz (.dat (.list bs))) (.fz (.dat (.list ps))) (.ow (.dic kvs)) s8' s9' s10' s11 s12) S ∧ (∀ kv ∈ kvs, TupK kv.1) ∧ kvs.length ≤ 24 := by
  obtain ⟨ρ', S', e, rfl, kvs, r8, r9, r10, rfl, hk, hl⟩ := sFor_inv (t := .one 8) (f := B_place) (lf := fRng1 (fCons (fAll lenF (fCons (fVarV 5) fNil)) fNil)) (ds := rngFrom 0 bs.length)
    (ρ := ev s2 s3 s4 (.fz (.dat (.list bs))) (.fz (.dat (.list ps))) (.ow (.dic [])) s8 s9 s10 s11 s12) (S := S) (S1 := S)
    (fun j ρ S' => S' = S ∧ ∃ kvs s8 s9 s10, ρ = ev s2 s3 s4 (.fz (.dat (.list bs))) (.fz (.dat (.list ps))) (.ow (.dic kvs)) s8 s9 s10 s11 s12 ∧ (∀ kv ∈ kvs, TupK kv.1) ∧ kvs.length ≤ j)
    (rng1_eq (by simp [ev, fCons, fAll, fVarV, lenF]) (by omega)) (fun j d ρ S2 hd hi => by
      obtain ⟨rfl, kvs, r8, r9, r10, rfl, hk, hl⟩ := hi
      obtain ⟨rfl, jl⟩ := rngFrom_at hd
      rw [Nat.zero_add]
      obtain ⟨kd, c, p, eb, wk, wc, c4, pp⟩ := hb _ (List.getElem_mem jl)
      obtain ⟨o, i, rfl, ho⟩ := pp
      have a1 : atI bs (j : Int) = some (.tuple [.str kd, .tuple c, .tuple [o, .int i]]) := atI_nat (by rw [List.getElem?_eq_getElem jl, eb])
      have a2 : atI [PyData.str kd, .tuple c, .tuple [o, .int i]] 2 = some (.tuple [o, .int i]) := rfl
      have jp : j < ps.length := by omega
      obtain ⟨nm, hn⟩ := wordD_str (pw _ (List.getElem_mem jp))
      have a3 : atI ps (j : Int) = some (.str nm) := atI_nat (by rw [List.getElem?_eq_getElem jp, hn])
      have kl : kvs.length < 16000000 := by omega
      rcases ho with rfl | ⟨n, n24, rfl⟩
      · refine ⟨_, ev s2 s3 s4 (.fz (.dat (.list bs))) (.fz (.dat (.list ps))) (.ow (.dic (putP kvs (.tuple [.str "", .int i]) (.str nm)))) (.fz (.dat (.int j))) (.fz (.dat (.str ""))) (.fz (.dat (.int i))) s11 s12, S2, rfl, ?_, rfl, _, _, _, _, rfl, putP_all hk ⟨_, _, rfl⟩, Nat.le_trans putP_len (by omega)⟩
        unfold B_place
        simp [ev, sSeq, sUnp, SOut.letV, bindT, setMany, fOpE, fVarV, fVar, idxV, a1, a2, a3, sIf, fCp, cpF, sPutD, fAll, fCons, tupF, datsOf, putV, tbl_of hk, kl]
      · have np : n < ps.length := by omega
        obtain ⟨ow, hw⟩ := wordD_str (pw _ (List.getElem_mem np))
        have a4 : atI ps (n : Int) = some (.str ow) := atI_nat (by rw [List.getElem?_eq_getElem np, hw])
        have ne : neD (.dat (.int n)) (.dat (.str "")) = some true := by rw [neD_small (by simp), PyData.eqv]; rfl
        refine ⟨_, ev s2 s3 s4 (.fz (.dat (.list bs))) (.fz (.dat (.list ps))) (.ow (.dic (putP kvs (.tuple [.str ow, .int i]) (.str nm)))) (.fz (.dat (.int j))) (.fz (.dat (.str ow))) (.fz (.dat (.int i))) s11 s12, S2, rfl, ?_, rfl, _, _, _, _, rfl, putP_all hk ⟨_, _, rfl⟩, Nat.le_trans putP_len (by omega)⟩
        unfold B_place
        simp [ev, sSeq, sUnp, SOut.letV, bindT, setMany, fOpE, fVarV, fVar, idxV, a1, a2, a3, a4, ne, sIf, sSet, fCp, cpF, sPutD, fAll, fCons, tupF, datsOf, putV, tbl_of hk, kl]) ⟨rfl, [], s8, s9, s10, rfl, (fun _ m => absurd m List.not_mem_nil), Nat.le_refl _⟩
  rw [rngFrom_len] at hl
  exact ⟨kvs, r8, r9, r10, e, hk, by omega⟩
theorem made_eq {bs ps : List PyData} (b24 : bs.length ≤ 24) (hb : ∀ d ∈ bs, BuiltOk d) (pl : ps.length = 24) (pw : ∀ d ∈ ps, wordD d = true) (pn : ∀ d ∈ ps, d ≠ .str "nobody") :
    ∃ its, fLc (fRng1 (fCons (fAll lenF (fCons (fVarV 5) fNil)) fNil)) (.one 8) [8] (fun _ S => .ok true S) (fAll tupF (fCons (fOpE idxV (fVarV 6) (fVarV 8)) (fCons (fOpE idxV (fOpE idxV (fVarV 5) (fVarV 8)) (fC (.int 0))) (fCons (fOpE idxV (fOpE idxV (fVarV 5) (fVarV 8)) (fC (.int 1))) fNil)))) (ev s2 s3 s4 (.fz (.dat (.list bs))) (.fz (.dat (.list ps))) s7 s8 s9 s10 s11 s12) S = .ok (.dat (.list its)) S ∧ its.length = bs.length ∧ (∀ d ∈ its, ItemS d) ∧ its.map head0 = (ps.take bs.length).map fun d => match d with | .str x => some x | _ => none := by
  obtain ⟨its, S', e, rfl, hl, hi, hn⟩ := lc_inv (t := .one 8) (vs := [8]) (c := fun _ S => .ok true S) (u := fAll tupF (fCons (fOpE idxV (fVarV 6) (fVarV 8)) (fCons (fOpE idxV (fOpE idxV (fVarV 5) (fVarV 8)) (fC (.int 0))) (fCons (fOpE idxV (fOpE idxV (fVarV 5) (fVarV 8)) (fC (.int 1))) fNil)))) (lf := fRng1 (fCons (fAll lenF (fCons (fVarV 5) fNil)) fNil)) (ds := rngFrom 0 bs.length) (ρ := ev s2 s3 s4 (.fz (.dat (.list bs))) (.fz (.dat (.list ps))) s7 s8 s9 s10 s11 s12) (S := S) (S1 := S)
    (fun j acc S' => S' = S ∧ acc.length = j ∧ (∀ d ∈ acc, ItemS d) ∧ acc.map head0 = (ps.take j).map fun d => match d with | .str x => some x | _ => none) (rng1_eq (by simp [ev, fCons, fAll, fVarV, lenF]) (by omega)) (fun j d acc S2 hd hi => by
      obtain ⟨rfl, ha, hs, hh⟩ := hi
      obtain ⟨rfl, jl⟩ := rngFrom_at hd
      rw [Nat.zero_add]
      obtain ⟨kd, c, p, eb, wk, wc, c4, pp⟩ := hb _ (List.getElem_mem jl)
      have a1 : atI bs (j : Int) = some (.tuple [.str kd, .tuple c, p]) := atI_nat (by rw [List.getElem?_eq_getElem jl, eb])
      have q0 : atI [PyData.str kd, .tuple c, p] 0 = some (.str kd) := rfl
      have q1 : atI [PyData.str kd, .tuple c, p] 1 = some (.tuple c) := rfl
      have jp : j < ps.length := by omega
      have wn := pw _ (List.getElem_mem jp)
      obtain ⟨nm, hn⟩ := wordD_str wn
      have nn := pn _ (List.getElem_mem jp)
      rw [hn] at wn nn
      have a3 : atI ps (j : Int) = some (.str nm) := atI_nat (by rw [List.getElem?_eq_getElem jp, hn])
      refine ⟨ev s2 s3 s4 (.fz (.dat (.list bs))) (.fz (.dat (.list ps))) s7 (.fz (.dat (.int j))) s9 s10 s11 s12, true, S2, rfl, rfl, (fun z => nomatch z), fun _ => ⟨.tuple [.str nm, .str kd, .tuple c], S2, ?_, rfl, by simp [ha], fun d m => ?_, ?_⟩⟩
      · simp [ev, fAll, fCons, fOpE, fVarV, idxV, a1, a3, q0, q1, tupF, datsOf]
      · rcases List.mem_append.mp m with m | m
        · exact hs d m
        · obtain rfl := List.mem_singleton.mp m
          exact ⟨nm, kd, c, rfl, wn, fun z => nn (by rw [z]), wk, wc, c4⟩
      · have tk : ps.take (j + 1) = ps.take j ++ [.str nm] := by rw [List.take_add_one, List.getElem?_eq_getElem jp, hn]; rfl
        rw [tk, List.map_append, List.map_append, hh]
        rfl) (by rw [rngFrom_len]; omega) ⟨rfl, rfl, (fun _ m => absurd m List.not_mem_nil), rfl⟩
  rw [rngFrom_len] at hl hn
  exact ⟨its, e, hl, hi, hn⟩
theorem answers_eq {kvs : List (PyData × PyData)} (hk : ∀ kv ∈ kvs, TupK kv.1) (kl : kvs.length ≤ 24) : ∃ xs, fLc (fIt (fAll sortedF2 (fCons (fVarV 7) fNil))) (.one 12) [12] (fun _ S => .ok true S) (fOpE idxV (fVarV 7) (fVarV 12)) (ev s2 s3 s4 s5 s6 (.ow (.dic kvs)) s8 s9 s10 s11 s12) S = .ok (.dat (.list xs)) S := by
  have so := sorted_keys hk
  obtain ⟨xs, S', e, rfl⟩ := lc_inv (t := .one 12) (vs := [12]) (c := fun _ S => .ok true S) (u := fOpE idxV (fVarV 7) (fVarV 12)) (lf := fIt (fAll sortedF2 (fCons (fVarV 7) fNil))) (ds := sortP (kvs.map (·.1))) (ρ := ev s2 s3 s4 s5 s6 (.ow (.dic kvs)) s8 s9 s10 s11 s12) (S := S) (S1 := S)
    (fun j acc S' => S' = S) (by simp [ev, fIt, fAll, fCons, fVarV, so, itV]) (fun j d acc S2 hd hi => by
      obtain rfl := hi
      obtain ⟨kv, mk, rfl⟩ := List.mem_map.mp (sortP_mem d (List.mem_of_getElem? hd))
      obtain ⟨a, b, ek⟩ := hk kv mk
      have rf : PyData.eqv kv.1 kv.1 = true := by rw [ek]; simp [PyData.eqv, PyData.eqvAll]
      obtain ⟨y, hy⟩ := lookD_has (kvs := kvs) ⟨kv, mk, rfl⟩ rf
      have tb : tblOk kvs kv.1 = true := by rw [ek]; exact tbl_of hk
      refine ⟨ev s2 s3 s4 s5 s6 (.ow (.dic kvs)) s8 s9 s10 s11 (.fz (.dat kv.1)), true, S2, rfl, rfl, (fun z => nomatch z), fun _ => ⟨y, S2, ?_, rfl⟩⟩
      simp [ev, fOpE, fVarV, idxV, tb, hy]) (by rw [sortP_len, List.length_map]; omega) rfl
  exact ⟨xs, e⟩
end
end K02

namespace K02
open PySem PySem.Spec PyProof.Rows L2 L2.HL
section
variable {S : Src} {t : Nat}
/-- strictly ascending names -/
def Asc (its : List PyData) : Prop := its.Pairwise fun x y => ∃ a b, head0 x = some a ∧ head0 y = some b ∧ a.cps.toList < b.cps.toList
def nmO : PyData → Option Str := fun d => match d with | .str x => some x | _ => none
theorem pool_nodup : ((pool16 ++ pool8).map nmO).Nodup := by decide +kernel
theorem pool_some : ∀ o ∈ (pool16 ++ pool8).map nmO, o ≠ some "nobody" := by decide +kernel
theorem dle_names {a b : Str} {xs ys : List PyData} (ne : a ≠ b) (h : PySem.W.dataLe false id (.tuple (.str a :: xs)) (.tuple (.str b :: ys)) = true) : a.cps.toList < b.cps.toList := by
  rw [PySem.W.dataLe_eq] at h
  simp only [id, cond_false, Bool.not_eq_true'] at h
  rw [PySem.W.dataLt_tuple, PySem.W.dataLt_cons (by simp only [PySem.W.alike])] at h
  have e : PyData.eqv (.str b) (.str a) = false := by
    rw [PyData.eqv]
    exact beq_eq_false_iff_ne.mpr (Ne.symm ne)
  rw [if_neg (by rw [e]; exact Bool.false_ne_true)] at h
  cases z : PySem.W.dataLt (.str a) (.str b) with
  | true => rw [PySem.W.dataLt_str] at z; exact of_decide_eq_true z
  | false =>
    unfold PySem.W.dataLt at h z
    have := PyProof.Rows.lex_total _ _ h z
    simp only [PySem.W.keyToks] at this
    have e2 : b.cps.toList = a.cps.toList := by simpa using this
    exact absurd (PySem.W.str_of_cps e2).symm ne
theorem asc_sorted {its : List PyData} (h : ∀ d ∈ its, ItemS d) (nd : (its.map head0).Nodup) : Asc (sortP its) := by
  have p := List.mergeSort_perm its (PySem.W.dataLe false id)
  have s := List.pairwise_mergeSort (le := PySem.W.dataLe false id) dle_trans dle_total its
  have nd2 : ((sortP its).map head0).Nodup := (p.map head0).nodup_iff.mpr nd
  have nd3 := List.pairwise_map.mp nd2
  have both := List.pairwise_iff_getElem.mp s
  have ne := List.pairwise_iff_getElem.mp nd3
  refine List.pairwise_iff_getElem.mpr fun i j hi hj lt => ?_
  have mi := h _ (sortP_mem _ (List.getElem_mem hi))
  have mj := h _ (sortP_mem _ (List.getElem_mem hj))
  have le := both i j hi hj lt
  have n := ne i j hi hj lt
  change PySem.W.dataLe false id (sortP its)[i] (sortP its)[j] = true at le
  generalize (sortP its)[i] = x at *
  generalize (sortP its)[j] = y at *
  obtain ⟨a, b, c, rfl, _⟩ := mi
  obtain ⟨a', b', c', rfl, _⟩ := mj
  exact ⟨a, a', rfl, rfl, dle_names (fun z => n (by rw [z]; rfl)) le⟩
def InvOk (d : PyData) : Prop := ∃ rs its, d = .tuple [.tuple rs, .list its] ∧ 1 ≤ rs.length ∧ rs.length ≤ 4 ∧ rs.all kindB = true ∧ 1 ≤ its.length ∧ its.length ≤ 24 ∧ (∀ d ∈ its, ItemS d) ∧ Asc its
theorem inventory_eq (g : Gd t S) (ht : t ≤ 600000) : ∃ d x S', F__law_inventory [.src, .dat (.int 24)] S = .ok (.dat (.tuple [d, x])) S' ∧ InvOk d ∧ Gd (t + 400) S' := by
  have L6 : kinds6.length = 6 := rfl
  have L24 : (pool16 ++ pool8).length = 24 := rfl
  obtain ⟨r, S1, e1, l1, g1⟩ := draw_eq (n := 6) g (by omega) (by omega) (by omega)
  have e1' : F__law_draw [.src, .dat (.int 6)] S = .ok (.dat (.int r)) S1 := e1
  obtain ⟨n, hn, n1, n6⟩ : ∃ n : Nat, atI [PyData.int 1, .int 2, .int 2, .int 3, .int 4, .int 6] (r : Int) = some (.int n) ∧ 1 ≤ n ∧ n ≤ 6 := by
    have : r = 0 ∨ r = 1 ∨ r = 2 ∨ r = 3 ∨ r = 4 ∨ r = 5 := by omega
    rcases this with rfl | rfl | rfl | rfl | rfl | rfl
    · exact ⟨1, rfl, by omega, by omega⟩
    · exact ⟨2, rfl, by omega, by omega⟩
    · exact ⟨2, rfl, by omega, by omega⟩
    · exact ⟨3, rfl, by omega, by omega⟩
    · exact ⟨4, rfl, by omega, by omega⟩
    · exact ⟨6, rfl, by omega, by omega⟩
  have t1 : sSet 2 (fOpE idxV (fAll lstF (fCons (fC (.int 1)) (fCons (fC (.int 2)) (fCons (fC (.int 2)) (fCons (fC (.int 3)) (fCons (fC (.int 4)) (fCons (fC (.int 6)) fNil))))))) (fCall F__law_draw (fCons (fVar 0) (fCons (fC (.int 6)) fNil)))) (ev .no .no .no .no .no .no .no .no .no .no .no) S = .nx (ev (.fz (.dat (.int n))) .no .no .no .no .no .no .no .no .no .no) S1 :=
    sSet_ok (x := .dat (.int n)) (by simp [ev, fOpE, fAll, fCons, lstF, datsOf, fCall, fVar, e1', idxV, hn])
  -- the kinds
  obtain ⟨ys, S2, e2, yp, g2⟩ := shuffle_eq (xs := kinds6) g1 (by omega) (by decide)
  have yl : ys.length = 6 := yp.length_eq
  have ym : ∀ y ∈ ys, y ∈ kinds6 := fun y m => yp.mem_iff.mp m
  have hk : KindsOk (ys.take n) := ⟨fun z => by
    have : min n ys.length = 0 := by rw [← List.length_take, z]; rfl
    omega, by rw [List.length_take]; omega, fun d m => kinds6_words d (ym d (List.mem_of_mem_take m))⟩
  have t2 : sSet 3 (fSl (fCall F__law_shuffle (fCons (fVar 0) (fCons (fAll lstF (fCons (fC (.str "k")) (fCons (fC (.str "l")) (fCons (fC (.str "kin")) (fCons (fC (.str "root")) (fCons (fC (.str "twelves")) (fCons (fC (.str "zz")) fNil))))))) fNil))) fNo (fPart (fVarV 2))) (ev (.fz (.dat (.int n))) .no .no .no .no .no .no .no .no .no .no) S1 = .nx (ev (.fz (.dat (.int n))) (.fz (.dat (.list (ys.take n)))) .no .no .no .no .no .no .no .no .no) S2 := by
    have ae : fCons (fVar 0) (fCons (fAll lstF (fCons (fC (.str "k")) (fCons (fC (.str "l")) (fCons (fC (.str "kin")) (fCons (fC (.str "root")) (fCons (fC (.str "twelves")) (fCons (fC (.str "zz")) fNil))))))) fNil) (ev (.fz (.dat (.int n))) .no .no .no .no .no .no .no .no .no .no) S1 = .ok [.src, .dat (.list kinds6)] S1 := by
      simp [ev, fCons, fVar, fAll, lstF, datsOf, kinds6]
    have pe : fPart (fVarV 2) (ev (.fz (.dat (.int n))) .no .no .no .no .no .no .no .no .no .no) S2 = .ok (some (n : Int)) S2 := fPart_int (by simp [ev, fVarV])
    refine sSet_ok ?_
    unfold fSl fCall
    rw [ae, Out.bind_ok, e2, Out.bind_ok, fNo_eq, Out.bind_ok, pe, Out.bind_ok]
    show ofO (some (Vl.dat (.list (cutP ys none (some (n : Int)))))) S2 = _
    rw [cutP_take]
    rfl
  -- the items
  obtain ⟨rs, bs, S3, e3, r1, r4, rw', b1, b24, hb, g3⟩ := items_eq hk g2 (by rw [L6]; omega)
  have t3 : sUnp (.many [4, 5]) (fCall F__law_items (fCons (fVar 0) (fCons (fVar 1) (fCons (fVar 3) fNil)))) (ev (.fz (.dat (.int n))) (.fz (.dat (.list (ys.take n)))) .no .no .no .no .no .no .no .no .no) S2 = .nx (ev (.fz (.dat (.int n))) (.fz (.dat (.list (ys.take n)))) (.fz (.dat (.tuple rs))) (.fz (.dat (.list bs))) .no .no .no .no .no .no .no) S3 := by
    simp [ev, sUnp, SOut.letV, fCall, fCons, fVar, e3, bindT, setMany]
  -- the names
  have t4 : sSet 6 (fAll lstF (fCons (fC (.str "a")) (fCons (fC (.str "aa")) (fCons (fC (.str "ab")) (fCons (fC (.str "b")) (fCons (fC (.str "bar")) (fCons (fC (.str "c")) (fCons (fC (.str "cap")) (fCons (fC (.str "d")) (fCons (fC (.str "dot")) (fCons (fC (.str "e")) (fCons (fC (.str "segments")) (fCons (fC (.str "f")) (fCons (fC (.str "g")) (fCons (fC (.str "h")) (fCons (fC (.str "i")) (fCons (fC (.str "jar")) fNil))))))))))))))))) (ev (.fz (.dat (.int n))) (.fz (.dat (.list (ys.take n)))) (.fz (.dat (.tuple rs))) (.fz (.dat (.list bs))) .no .no .no .no .no .no .no) S3 = .nx (ev (.fz (.dat (.int n))) (.fz (.dat (.list (ys.take n)))) (.fz (.dat (.tuple rs))) (.fz (.dat (.list bs))) (.fz (.dat (.list pool16))) .no .no .no .no .no .no) S3 :=
    sSet_ok (x := .dat (.list pool16)) (by simp [fAll, fCons, lstF, datsOf, pool16])
  obtain ⟨ps, S4, e4, pp, g4⟩ := shuffle_eq (xs := pool16 ++ pool8) g3 (by rw [L6]; omega) (by decide)
  have pl : ps.length = 24 := pp.length_eq
  have pm : ∀ y ∈ ps, y ∈ pool16 ++ pool8 := fun y m => pp.mem_iff.mp m
  have pn : ∀ d ∈ ps, d ≠ .str "nobody" := fun d m z => pool_some _ (List.mem_map.mpr ⟨d, pm d m, rfl⟩) (by rw [z]; rfl)
  have pnd : (ps.map nmO).Nodup := (pp.map nmO).nodup_iff.mpr pool_nodup
  have pw : ∀ d ∈ ps, wordD d = true := fun d m => pool_words d (pm d m)
  have t5 : sSet 6 (fCall F__law_shuffle (fCons (fVar 0) (fCons (fOp addV (fVarV 6) (fAll lstF (fCons (fC (.str "k")) (fCons (fC (.str "lo")) (fCons (fC (.str "m")) (fCons (fC (.str "n")) (fCons (fC (.str "oz")) (fCons (fC (.str "p")) (fCons (fC (.str "swap")) (fCons (fC (.str "zz")) fNil)))))))))) fNil))) (ev (.fz (.dat (.int n))) (.fz (.dat (.list (ys.take n)))) (.fz (.dat (.tuple rs))) (.fz (.dat (.list bs))) (.fz (.dat (.list pool16))) .no .no .no .no .no .no) S3 = .nx (ev (.fz (.dat (.int n))) (.fz (.dat (.list (ys.take n)))) (.fz (.dat (.tuple rs))) (.fz (.dat (.list bs))) (.fz (.dat (.list ps))) .no .no .no .no .no .no) S4 := by
    have l8 : fAll lstF (fCons (fC (.str "k")) (fCons (fC (.str "lo")) (fCons (fC (.str "m")) (fCons (fC (.str "n")) (fCons (fC (.str "oz")) (fCons (fC (.str "p")) (fCons (fC (.str "swap")) (fCons (fC (.str "zz")) fNil)))))))) (ev (.fz (.dat (.int n))) (.fz (.dat (.list (ys.take n)))) (.fz (.dat (.tuple rs))) (.fz (.dat (.list bs))) (.fz (.dat (.list pool16))) .no .no .no .no .no .no) S3 = .ok (.dat (.list pool8)) S3 := by
      simp [fAll, fCons, lstF, datsOf, pool8]
    have ad : addV (.dat (.list pool16)) (.dat (.list pool8)) = some (.dat (.list (pool16 ++ pool8))) := addV_ll (by decide)
    have ae : fCons (fVar 0) (fCons (fOp addV (fVarV 6) (fAll lstF (fCons (fC (.str "k")) (fCons (fC (.str "lo")) (fCons (fC (.str "m")) (fCons (fC (.str "n")) (fCons (fC (.str "oz")) (fCons (fC (.str "p")) (fCons (fC (.str "swap")) (fCons (fC (.str "zz")) fNil)))))))))) fNil) (ev (.fz (.dat (.int n))) (.fz (.dat (.list (ys.take n)))) (.fz (.dat (.tuple rs))) (.fz (.dat (.list bs))) (.fz (.dat (.list pool16))) .no .no .no .no .no .no) S3 = .ok [.src, .dat (.list (pool16 ++ pool8))] S3 := by
      refine fCons_ok (S1 := S3) (x := .src) rfl (fCons_ok ?_ fNil_eq)
      unfold fOp
      rw [show fVarV 6 (ev (.fz (.dat (.int n))) (.fz (.dat (.list (ys.take n)))) (.fz (.dat (.tuple rs))) (.fz (.dat (.list bs))) (.fz (.dat (.list pool16))) .no .no .no .no .no .no) S3 = .ok (.dat (.list pool16)) S3 from rfl, Out.bind_ok, l8, Out.bind_ok, opF, ad]
      rfl
    refine sSet_ok ?_
    unfold fCall
    rw [ae, Out.bind_ok, e4]
  have t6 : sOwn 7 fDic0 (ev (.fz (.dat (.int n))) (.fz (.dat (.list (ys.take n)))) (.fz (.dat (.tuple rs))) (.fz (.dat (.list bs))) (.fz (.dat (.list ps))) .no .no .no .no .no .no) S4 = .nx (ev (.fz (.dat (.int n))) (.fz (.dat (.list (ys.take n)))) (.fz (.dat (.tuple rs))) (.fz (.dat (.list bs))) (.fz (.dat (.list ps))) (.ow (.dic [])) .no .no .no .no .no) S4 := sOwn_ok rfl rfl
  obtain ⟨kvs, s8, s9, s10, e7, hkv, kl⟩ := places_eq (s2 := .fz (.dat (.int n))) (s3 := .fz (.dat (.list (ys.take n)))) (s4 := .fz (.dat (.tuple rs))) (s8 := .no) (s9 := .no) (s10 := .no) (s11 := .no) (s12 := .no) (S := S4) b24 hb pl pw
  obtain ⟨its, e8, il, hi, hn⟩ := made_eq (s2 := .fz (.dat (.int n))) (s3 := .fz (.dat (.list (ys.take n)))) (s4 := .fz (.dat (.tuple rs))) (s7 := .ow (.dic kvs)) (s8 := s8) (s9 := s9) (s10 := s10) (s11 := .no) (s12 := .no) (S := S4) b24 hb pl pw pn
  have nd : (its.map head0).Nodup := by
    rw [hn]
    have : (ps.take bs.length).map nmO = (ps.map nmO).take bs.length := by rw [List.map_take]
    change ((ps.take bs.length).map nmO).Nodup
    rw [this]
    exact List.Nodup.sublist (List.take_sublist _ _) pnd
  have asc := asc_sorted hi nd
  have t8 : sSet 11 (fAll sortedF2 (fCons (fLc (fRng1 (fCons (fAll lenF (fCons (fVarV 5) fNil)) fNil)) (.one 8) [8] (fun _ S => .ok true S) (fAll tupF (fCons (fOpE idxV (fVarV 6) (fVarV 8)) (fCons (fOpE idxV (fOpE idxV (fVarV 5) (fVarV 8)) (fC (.int 0))) (fCons (fOpE idxV (fOpE idxV (fVarV 5) (fVarV 8)) (fC (.int 1))) fNil))))) fNil)) (ev (.fz (.dat (.int n))) (.fz (.dat (.list (ys.take n)))) (.fz (.dat (.tuple rs))) (.fz (.dat (.list bs))) (.fz (.dat (.list ps))) (.ow (.dic kvs)) s8 s9 s10 .no .no) S4 = .nx (ev (.fz (.dat (.int n))) (.fz (.dat (.list (ys.take n)))) (.fz (.dat (.tuple rs))) (.fz (.dat (.list bs))) (.fz (.dat (.list ps))) (.ow (.dic kvs)) s8 s9 s10 (.fz (.dat (.list (sortP its)))) .no) S4 :=
    sSet_ok (fAll_ok (fCons_ok e8 fNil_eq) (sorted_items hi))
  obtain ⟨xs, e9⟩ := answers_eq (s2 := .fz (.dat (.int n))) (s3 := .fz (.dat (.list (ys.take n)))) (s4 := .fz (.dat (.tuple rs))) (s5 := .fz (.dat (.list bs))) (s6 := .fz (.dat (.list ps))) (s8 := s8) (s9 := s9) (s10 := s10) (s11 := .fz (.dat (.list (sortP its)))) (s12 := .no) (S := S4) hkv kl
  have t9 : sRet (fAll tupF (fCons (fAll tupF (fCons (fVar 4) (fCons (fVar 11) fNil))) (fCons (fLc (fIt (fAll sortedF2 (fCons (fVarV 7) fNil))) (.one 12) [12] (fun _ S => .ok true S) (fOpE idxV (fVarV 7) (fVarV 12))) fNil))) (ev (.fz (.dat (.int n))) (.fz (.dat (.list (ys.take n)))) (.fz (.dat (.tuple rs))) (.fz (.dat (.list bs))) (.fz (.dat (.list ps))) (.ow (.dic kvs)) s8 s9 s10 (.fz (.dat (.list (sortP its)))) .no) S4 = .rt (.dat (.tuple [.tuple [.tuple rs, .list (sortP its)], .list xs])) S4 := by
    have a1 : fAll tupF (fCons (fVar 4) (fCons (fVar 11) fNil)) (ev (.fz (.dat (.int n))) (.fz (.dat (.list (ys.take n)))) (.fz (.dat (.tuple rs))) (.fz (.dat (.list bs))) (.fz (.dat (.list ps))) (.ow (.dic kvs)) s8 s9 s10 (.fz (.dat (.list (sortP its)))) .no) S4 = .ok (.dat (.tuple [.tuple rs, .list (sortP its)])) S4 := by
      simp [ev, fAll, fCons, fVar, tupF, datsOf]
    unfold sRet
    rw [fAll_ok (r := .dat (.tuple [.tuple [.tuple rs, .list (sortP its)], .list xs])) (fCons_ok a1 (fCons_ok e9 fNil_eq)) (by simp [tupF, datsOf])]
    rfl
  refine ⟨.tuple [.tuple rs, .list (sortP its)], .list xs, S4, ?_, ⟨rs, sortP its, rfl, r1, r4, rw', by rw [sortP_len]; omega, by rw [sortP_len]; omega, (fun d m => hi d (sortP_mem d m)), asc⟩, g4.mono (by rw [L6, L24]; omega)⟩
  show defF 13 2 B__law_inventory _ _ = _
  rw [defF_eq (by rfl)]
  show (B__law_inventory (ev .no .no .no .no .no .no .no .no .no .no .no) S).out = _
  have all : B__law_inventory (ev .no .no .no .no .no .no .no .no .no .no .no) S = .rt (.dat (.tuple [.tuple [.tuple rs, .list (sortP its)], .list xs])) S4 :=
    (sSeq_nx t1).trans ((sSeq_nx t2).trans ((sSeq_nx t3).trans ((sSeq_nx t4).trans ((sSeq_nx t5).trans ((sSeq_nx t6).trans ((sSeq_nx e7).trans ((sSeq_nx t8).trans t9)))))))
  rw [all]
  rfl
end
end K02

namespace K02
open PySem PySem.Spec PyProof.Rows L2 L2.HL
/-! ### a drawn inventory is well made -/
theorem errItems_of : ∀ {its : List PyData} {prev : Option Str} {k : Nat}, Good prev its → errItems prev k its = none
  | [], _, _, _ => by rw [errItems]
  | it :: r, prev, k, ⟨a, h, g⟩ => by rw [errItems, h]; exact errItems_of g
theorem words_kinds {c : List PyData} {n : Nat} (h : c.all kindB = true) (hl : c.length ≤ n) : kindsD 0 n (.tuple c) = true := by
  show (decide (0 ≤ c.length ∧ c.length ≤ n) && c.all wordD) = true
  rw [kindsB_words h, decide_eq_true ⟨Nat.zero_le _, hl⟩]
  rfl
theorem good_asc : ∀ {its : List PyData} {prev : Option Str}, (∀ d ∈ its, ItemS d) → Asc its → (∀ p, prev = some p → ∀ x ∈ its, ∃ a, head0 x = some a ∧ p.cps.toList < a.cps.toList) → Good prev its
  | [], _, _, _, _ => trivial
  | it :: r, prev, h, s, hp => by
    obtain ⟨a, b, c, rfl, wa, _, kb, kc, c4⟩ := h it List.mem_cons_self
    have s2 := List.pairwise_cons.mp s
    refine ⟨a, ?_, good_asc (fun d m => h d (List.mem_cons_of_mem _ m)) s2.2 fun p e x m => ?_⟩
    · have gp : gtP prev a = true := by
        cases prev with
        | none => rfl
        | some p =>
          obtain ⟨a', e, lt⟩ := hp p rfl _ List.mem_cons_self
          cases e
          exact decide_eq_true lt
      show (if (wordD (.str a) && wordD (.str b) && kindsD 0 4 (.tuple c) && gtP prev a) = true then some a else none) = some a
      rw [wa, kindB_word kb, words_kinds kc c4, gp]
      rfl
    · cases e
      obtain ⟨a1, b1, e1, e2, lt⟩ := s2.1 x m
      cases e1
      exact ⟨b1, e2, lt⟩
theorem nodup_sub {α : Type} [DecidableEq α] {l m : List α} (nd : l.Nodup) (h : ∀ x ∈ l, x ∈ m) : l.length ≤ m.length := by
  induction l generalizing m with
  | nil => exact Nat.zero_le _
  | cons a l ih =>
    have n2 := List.nodup_cons.mp nd
    have ma := h a List.mem_cons_self
    have := ih (m := m.erase a) n2.2 fun x mx => by
      have ne : x ≠ a := fun z => n2.1 (z ▸ mx)
      exact (List.mem_erase_of_ne ne).mpr (h x (List.mem_cons_of_mem _ mx))
    rw [List.length_erase_of_mem ma] at this
    have : 0 < m.length := List.length_pos_of_mem ma
    rw [List.length_cons]
    omega
theorem txts_kind : ∀ {ds : List PyData}, ds.all kindB = true → ∀ x ∈ txts ds, x ∈ kindS6
  | [], _, x, m => absurd m List.not_mem_nil
  | d :: ds, h, x, m => by
    rw [List.all_cons, Bool.and_eq_true] at h
    obtain ⟨y, rfl⟩ := kindB_str h.1
    have m' : x ∈ y :: txts ds := m
    rcases List.mem_cons.mp m' with rfl | m'
    · exact of_decide_eq_true h.1
    · exact txts_kind h.2 x m'
theorem kindsItems_kind : ∀ {its : List PyData}, (∀ d ∈ its, ItemS d) → ∀ x ∈ kindsItems its, x ∈ kindS6
  | [], _, x, m => absurd m List.not_mem_nil
  | it :: r, h, x, m => by
    obtain ⟨a, b, c, rfl, wa, _, kb, kc, c4⟩ := h it List.mem_cons_self
    have m' : x ∈ b :: (txts c ++ kindsItems r) := m
    rcases List.mem_cons.mp m' with rfl | m'
    · exact of_decide_eq_true kb
    · rcases List.mem_append.mp m' with m' | m'
      · exact txts_kind kc x m'
      · exact kindsItems_kind (fun d m => h d (List.mem_cons_of_mem _ m)) x m'
theorem many_le {ks : List Str} (h : ∀ x ∈ ks, x ∈ kindS6) : manyK ks ≤ 6 := by
  unfold manyK
  refine Nat.le_trans (nodup_sub (m := kindS6.map Sum.inr) dedupK_nodup fun x m => ?_) (by decide)
  obtain ⟨y, my, rfl⟩ := List.mem_map.mp (dedupK_mem.mp m)
  exact List.mem_map.mpr ⟨y, h y my, rfl⟩
theorem inv_good {rs its : List PyData} (hi : ∀ d ∈ its, ItemS d) (asc : Asc its) : Good none its := good_asc hi asc fun _ z => nomatch z
theorem inv_none {d : PyData} (h : InvOk d) : errD d = .none := by
  obtain ⟨rs, its, rfl, r1, r4, kr, i1, i24, hi, asc⟩ := h
  have kd : kindsD 1 4 (.tuple rs) = true := by
    show (decide (1 ≤ rs.length ∧ rs.length ≤ 4) && rs.all wordD) = true
    rw [kindsB_words kr, decide_eq_true ⟨r1, r4⟩]
    rfl
  show (if kindsD 1 4 (.tuple rs) = true then (if 1 ≤ its.length ∧ its.length ≤ 24 then errN rs its else _) else _) = _
  rw [if_pos kd, if_pos ⟨i1, i24⟩]
  unfold errN
  rw [errItems_of (inv_good (rs := rs) hi asc)]
  have : ¬ 6 < manyK (txts rs ++ kindsItems its) := by
    have := many_le (ks := txts rs ++ kindsItems its) fun x m => by
      rcases List.mem_append.mp m with m | m
      · exact txts_kind kr x m
      · exact kindsItems_kind hi x m
    omega
  dsimp only
  rw [if_neg this]
theorem inv_fit {d : PyData} (h : InvOk d) : fitL 5 d = true := by
  obtain ⟨rs, its, rfl, r1, r4, kr, i1, i24, hi, asc⟩ := h
  have f4 : fitL 4 (.tuple rs) = true := tuple_fit (words_fit (kindsB_words kr) 3) (by show rs.length ≤ 25; omega)
  have l4 : fitL 4 (.list its) = true := list_fit (fun d m => item_fit (hi d m)) (by show its.length ≤ 25; omega)
  refine tuple_fit (fun d m => ?_) (by show 2 ≤ 3; omega)
  simp only [List.mem_cons, List.not_mem_nil, or_false] at m
  rcases m with rfl | rfl <;> assumption
end K02

/-! steps of a mirror, one by one -/
namespace L2.HL
open PySem PySem.Spec PyProof.Rows
theorem sIf_no {b : BF} {f g : SF} {ρ : En} {S S' : Src} (h : b ρ S = .ok false S') : sIf b f g ρ S = g ρ S' := by
  unfold sIf
  rw [h]
  rfl
theorem sIf_yes {b : BF} {f g : SF} {ρ : En} {S S' : Src} (h : b ρ S = .ok true S') : sIf b f g ρ S = f ρ S' := by
  unfold sIf
  rw [h]
  rfl
theorem sSeq_rt {f g : SF} {ρ : En} {S S' : Src} {x : Vl} (h : f ρ S = .rt x S') : sSeq f g ρ S = .rt x S' := by
  unfold sSeq
  rw [h]
  rfl
theorem sRet_ok {u : EF} {ρ : En} {S S' : Src} {x : Vl} (h : u ρ S = .ok x S') : sRet u ρ S = .rt x S' := by
  unfold sRet
  rw [h]
  rfl
theorem fCall_ok {F : Fm} {g : AF} {ρ : En} {S S1 S' : Src} {xs : List Vl} {x : Vl} (h : g ρ S = .ok xs S1) (hF : F xs S1 = .ok x S') : fCall F g ρ S = .ok x S' := by
  unfold fCall
  rw [h, Out.bind_ok, hF]
theorem fOp_ok {F : Vl → Vl → Option Vl} {f g : EF} {ρ : En} {S S1 S2 : Src} {x y r : Vl} (hf : f ρ S = .ok x S1) (hg : g ρ S1 = .ok y S2) (hF : F x y = some r) : fOp F f g ρ S = .ok r S2 := by
  unfold fOp
  rw [hf, Out.bind_ok, hg, Out.bind_ok, opF, hF]
  rfl
theorem fOpE_ok {F : Vl → Vl → Option Vl} {f g : EF} {ρ : En} {S S1 S2 : Src} {x y r : Vl} (hf : f ρ S = .ok x S1) (hg : g ρ S1 = .ok y S2) (hF : F x y = some r) : fOpE F f g ρ S = .ok r S2 := by
  unfold fOpE
  rw [hf, Out.bind_ok, hg, Out.bind_ok, hF]
  rfl
theorem fCp_ok {F : Vl → Vl → Option Bool} {f g : EF} {ρ : En} {S S1 S2 : Src} {x y : Vl} {r : Bool} (hf : f ρ S = .ok x S1) (hg : g ρ S1 = .ok y S2) (hF : F x y = some r) : fCp F f g ρ S = .ok r S2 := by
  unfold fCp
  rw [hf, Out.bind_ok, hg, Out.bind_ok, cpF, hF]
  rfl
theorem fU_ok {F : Vl → Option Vl} {f : EF} {ρ : En} {S S1 : Src} {x r : Vl} (hf : f ρ S = .ok x S1) (hF : F x = some r) : fU F f ρ S = .ok r S1 := by
  unfold fU
  rw [hf, Out.bind_ok, hF]
  rfl
theorem fOr_no {f g : BF} {ρ : En} {S S1 S2 : Src} {b : Bool} (hf : f ρ S = .ok false S1) (hg : g ρ S1 = .ok b S2) : fOr f g ρ S = .ok b S2 := by
  unfold fOr
  rw [hf, Out.bind_ok]
  exact hg
theorem sFz_ow {n : Nat} {f : SF} {ρ : En} {S : Src} {x : Vl} (h : ρ[n]? = some (.ow x)) : sFz n f ρ S = f (ρ.set n (.fz x)) S := by
  unfold sFz
  rw [h]
theorem fIt_ok {f : EF} {ρ : En} {S S1 : Src} {x : Vl} {ds : List PyData} (hf : f ρ S = .ok x S1) (h : itV x = some ds) : fIt f ρ S = .ok ds S1 := by
  unfold fIt
  rw [hf, Out.bind_ok, h]
  rfl
theorem addV_tt {xs ys : List PyData} (h : xs.length + ys.length ≤ 16777216) : addV (.dat (.tuple xs)) (.dat (.tuple ys)) = some (.dat (.tuple (xs ++ ys))) := if_pos h
theorem cutP_sub {xs : List PyData} (lo hi : Option Int) : ∀ d ∈ cutP xs lo hi, d ∈ xs := fun d m => by
  unfold cutP at m
  exact List.mem_of_mem_drop (List.mem_of_mem_take m)
theorem cutP_le {xs : List PyData} (lo hi : Option Int) : (cutP xs lo hi).length ≤ xs.length := by
  unfold cutP
  rw [List.length_take, List.length_drop]
  omega
end L2.HL

namespace K02
open PySem PySem.Spec PyProof.Rows L2 L2.HL
section
variable {S : Src} {t : Nat}
theorem asc_of_map {xs ys : List PyData} (h : xs.map head0 = ys.map head0) (a : Asc ys) : Asc xs := by
  unfold Asc at a ⊢
  have e : ∀ zs : List PyData, (zs.Pairwise fun x y => ∃ a b, head0 x = some a ∧ head0 y = some b ∧ a.cps.toList < b.cps.toList) ↔ (zs.map head0).Pairwise fun x y => ∃ a b : Str, x = some a ∧ y = some b ∧ a.cps.toList < b.cps.toList := fun zs => by rw [List.pairwise_map]
  rw [e] at a ⊢
  rw [h]
  exact a
theorem asc_sub {xs ys : List PyData} (h : xs.Sublist ys) (a : Asc ys) : Asc xs := List.Pairwise.sublist h a
theorem cut_out {its : List PyData} (k : Nat) : (its.take k ++ its.drop (k + 1)).Sublist its := by
  have e : its = its.take k ++ its.drop k := (List.take_append_drop k its).symm
  conv => rhs; rw [e]
  refine List.Sublist.append (List.Sublist.refl _) ?_
  rw [show its.drop (k + 1) = (its.drop k).drop 1 by rw [List.drop_drop]]
  exact List.drop_sublist _ _
theorem cut_put {its : List PyData} {k : Nat} {x : PyData} (h : k < its.length) : its.take k ++ [x] ++ its.drop (k + 1) = its.set k x := by
  rw [List.set_eq_take_append_cons_drop, if_pos h]
  simp
theorem put_ok {its : List PyData} {k : Nat} {x : PyData} (hk : k < its.length) (hi : ∀ d ∈ its, ItemS d) (asc : Asc its) (hx : ItemS x) (hn : head0 x = head0 its[k]) : (∀ d ∈ its.set k x, ItemS d) ∧ Asc (its.set k x) := by
  refine ⟨fun d m => ?_, asc_of_map ?_ asc⟩
  · rcases List.mem_or_eq_of_mem_set m with m | rfl
    · exact hi d m
    · exact hx
  · rw [List.map_set, hn]
    have : (its.map head0)[k]'(by rw [List.length_map]; exact hk) = head0 its[k] := by rw [List.getElem_map]
    rw [← this, List.set_getElem_self]
theorem all_take {c : List PyData} {n : Nat} (h : c.all kindB = true) : (c.take n).all kindB = true := List.all_eq_true.mpr fun d m => List.all_eq_true.mp h d (List.mem_of_mem_take m)
theorem all_app {c e : List PyData} (h : c.all kindB = true) (k : e.all kindB = true) : (c ++ e).all kindB = true := by rw [List.all_append, h, k]; rfl
theorem all_rev {c : List PyData} (h : c.all kindB = true) : c.reverse.all kindB = true := List.all_eq_true.mpr fun d m => List.all_eq_true.mp h d (List.mem_reverse.mp m)
abbrev ec (inv : PyData) (rs its : List PyData) (k : Nat) (a b : Str) (c : List PyData) (v : Nat) : En := [.fz .src, .fz (.dat inv), .fz (.dat (.tuple rs)), .fz (.dat (.list its)), .fz (.dat (.int k)), .fz (.dat (.str a)), .fz (.dat (.str b)), .fz (.dat (.tuple c)), .fz (.dat (.int v))]
def B_ch : SF := (sSeq (sIf (fAnd (fCp eqD (fVarV 8) (fC (.int 0))) (fCp gtD (fAll lenF (fCons (fVarV 3) fNil)) (fC (.int 1)))) (sRet (fAll tupF (fCons (fVar 2) (fCons (fOp addV (fSl (fVarV 3) fNo (fPart (fVarV 4))) (fSl (fVarV 3) (fPart (fOp addV (fVarV 4) (fC (.int 1)))) fNo)) fNil)))) .nx)
    (sSeq (sIf (fCp eqD (fVarV 8) (fC (.int 1))) (sRet (fAll tupF (fCons (fVar 2) (fCons (fOp addV (fOp addV (fSl (fVarV 3) fNo (fPart (fVarV 4))) (fAll lstF (fCons (fAll tupF (fCons (fVar 5) (fCons (fVar 6) (fCons (fSl (fOp addV (fVarV 7) (fVarV 2)) fNo (fPart (fC (.int 4)))) fNil)))) fNil))) (fSl (fVarV 3) (fPart (fOp addV (fVarV 4) (fC (.int 1)))) fNo)) fNil)))) .nx)
    (sSeq (sIf (fCp eqD (fVarV 8) (fC (.int 2))) (sRet (fAll tupF (fCons (fU revV2 (fVarV 2)) (fCons (fOp addV (fOp addV (fSl (fVarV 3) fNo (fPart (fVarV 4))) (fAll lstF (fCons (fAll tupF (fCons (fVar 5) (fCons (fOpE idxV (fVarV 2) (fC (.int 0))) (fCons (fU revV2 (fVarV 7)) fNil)))) fNil))) (fSl (fVarV 3) (fPart (fOp addV (fVarV 4) (fC (.int 1)))) fNo)) fNil)))) .nx)
    (sRet (fAll tupF (fCons (fSl (fOp addV (fVarV 2) (fVarV 2)) fNo (fPart (fC (.int 4)))) (fCons (fVar 3) fNil)))))))
theorem ch_eq {inv : PyData} {rs its c : List PyData} {a b : Str} {k v : Nat} (r1 : 1 ≤ rs.length) (r4 : rs.length ≤ 4) (kr : rs.all kindB = true) (i24 : its.length ≤ 24) (hi : ∀ d ∈ its, ItemS d) (asc : Asc its) (hk : k < its.length) (e : its[k] = .tuple [.str a, .str b, .tuple c]) :
    ∃ x, B_ch (ec inv rs its k a b c v) S = .rt (.dat x) S ∧ InvOk x := by
  have ik := hi _ (List.getElem_mem hk)
  rw [e] at ik
  obtain ⟨a', b', c', e', wa, na, kb, kc, c4⟩ := ik
  cases e'
  have f1 : fSl (fVarV 3) fNo (fPart (fVarV 4)) (ec inv rs its k a b c v) S = .ok (.dat (.list (its.take k))) S := by
    rw [← cutP_take]
    simp [ec, fSl, fPart, asInt, slV, fVarV]
  have f2 : fSl (fVarV 3) (fPart (fOp addV (fVarV 4) (fC (.int 1)))) fNo (ec inv rs its k a b c v) S = .ok (.dat (.list (its.drop (k + 1)))) S := by
    rw [← cutP_drop]
    have a1 : addV (.dat (.int k)) (.dat (.int 1)) = some (.dat (.int ((k + 1 : Nat) : Int))) := rfl
    simp [ec, fSl, fPart, asInt, slV, fVarV, fOp, opF, a1]
  have lt : (its.take k).length ≤ 24 := by rw [List.length_take]; omega
  have ld : (its.drop (k + 1)).length ≤ 24 := by rw [List.length_drop]; omega
  have c1 : fAnd (fCp eqD (fVarV 8) (fC (.int 0))) (fCp gtD (fAll lenF (fCons (fVarV 3) fNil)) (fC (.int 1))) (ec inv rs its k a b c v) S = .ok (decide (v = 0) && decide (1 < its.length)) S := by
    by_cases h : v = 0
    · subst h
      have : decide ((1 : Int) < (its.length : Int)) = decide (1 < its.length) := by
        by_cases z : 1 < its.length
        · rw [decide_eq_true z, decide_eq_true (by omega)]
        · rw [decide_eq_false z, decide_eq_false (by omega)]
      simp [ec, fAnd, fCp, cpF, fVarV, fAll, fCons, lenF, this]
    · have h' : ¬ (v : Int) = 0 := by omega
      simp [ec, fAnd, fCp, cpF, fVarV, h, h']
  have ceq : ∀ n : Nat, fCp eqD (fVarV 8) (fC (.int n)) (ec inv rs its k a b c v) S = .ok (decide (v = n)) S := fun n => by
    simp only [ec, fCp, fVarV, Out.bind_ok, fC_eq, cpF]
    show ofO (eqD (.dat (.int v)) (.dat (.int n))) S = _
    rw [eqD_ii]
    by_cases h : v = n
    · subst h; simp
    · have h' : ¬ (v : Int) = (n : Int) := by omega
      simp [h, h']
  -- an item put in another's place
  have put : ∀ (u : EF) (x : PyData), u (ec inv rs its k a b c v) S = .ok (.dat x) S → fOp addV (fOp addV (fSl (fVarV 3) fNo (fPart (fVarV 4))) (fAll lstF (fCons u fNil))) (fSl (fVarV 3) (fPart (fOp addV (fVarV 4) (fC (.int 1)))) fNo) (ec inv rs its k a b c v) S = .ok (.dat (.list (its.set k x))) S := fun u x hu => by
    have l1 : fAll lstF (fCons u fNil) (ec inv rs its k a b c v) S = .ok (.dat (.list [x])) S := fAll_ok (fCons_ok hu fNil_eq) (by simp [lstF, datsOf])
    rw [← cut_put hk]
    have g1 : addV (.dat (.list (its.take k))) (.dat (.list [x])) = some (.dat (.list (its.take k ++ [x]))) := addV_ll (by simp; omega)
    have g2 : addV (.dat (.list (its.take k ++ [x]))) (.dat (.list (its.drop (k + 1)))) = some (.dat (.list (its.take k ++ [x] ++ its.drop (k + 1)))) := addV_ll (by simp only [List.length_append, List.length_singleton]; omega)
    exact fOp_ok (fOp_ok f1 l1 g1) f2 g2
  unfold B_ch
  by_cases h0 : v = 0 ∧ 1 < its.length
  · have g1 : addV (.dat (.list (its.take k))) (.dat (.list (its.drop (k + 1)))) = some (.dat (.list (its.take k ++ its.drop (k + 1)))) := addV_ll (by omega)
    have sub := cut_out (its := its) k
    refine ⟨.tuple [.tuple rs, .list (its.take k ++ its.drop (k + 1))], sSeq_rt ((sIf_yes (by rw [c1, decide_eq_true h0.1, decide_eq_true h0.2]; rfl)).trans ?_), rs, _, rfl, r1, r4, kr, ?_, ?_, fun d m => hi d (sub.subset m), asc_sub sub asc⟩
    · have s := fOp_ok f1 f2 g1
      exact sRet_ok (fAll_ok (xs := [.dat (.tuple rs), .dat (.list (its.take k ++ its.drop (k + 1)))]) (fCons_ok (S1 := S) rfl (fCons_ok s fNil_eq)) (by simp [tupF, datsOf]))
    · rw [List.length_append, List.length_take, List.length_drop]; omega
    · rw [List.length_append, List.length_take, List.length_drop]; omega
  have n0 : sIf (fAnd (fCp eqD (fVarV 8) (fC (.int 0))) (fCp gtD (fAll lenF (fCons (fVarV 3) fNil)) (fC (.int 1)))) (sRet (fAll tupF (fCons (fVar 2) (fCons (fOp addV (fSl (fVarV 3) fNo (fPart (fVarV 4))) (fSl (fVarV 3) (fPart (fOp addV (fVarV 4) (fC (.int 1)))) fNo)) fNil)))) .nx (ec inv rs its k a b c v) S = .nx (ec inv rs its k a b c v) S := sIf_no (by
    rw [c1]
    by_cases z : v = 0
    · rw [decide_eq_false (fun y => h0 ⟨z, y⟩), Bool.and_false]
    · rw [decide_eq_false z, Bool.false_and])
  by_cases h1 : v = 1
  · have g1 : addV (.dat (.tuple c)) (.dat (.tuple rs)) = some (.dat (.tuple (c ++ rs))) := addV_tt (by omega)
    have sl : fSl (fOp addV (fVarV 7) (fVarV 2)) fNo (fPart (fC (.int 4))) (ec inv rs its k a b c v) S = .ok (.dat (.tuple ((c ++ rs).take 4))) S := by
      rw [← cutP_take]
      generalize c ++ rs = cr at *
      simp [ec, fSl, fPart, asInt, slV, fVarV, fOp, opF, g1]
    have it : fAll tupF (fCons (fVar 5) (fCons (fVar 6) (fCons (fSl (fOp addV (fVarV 7) (fVarV 2)) fNo (fPart (fC (.int 4)))) fNil))) (ec inv rs its k a b c v) S = .ok (.dat (.tuple [.str a, .str b, .tuple ((c ++ rs).take 4)])) S :=
      fAll_ok (xs := [.dat (.str a), .dat (.str b), .dat (.tuple ((c ++ rs).take 4))]) (fCons_ok (S1 := S) rfl (fCons_ok (S1 := S) rfl (fCons_ok sl fNil_eq))) (by simp [tupF, datsOf])
    have p := put_ok (x := .tuple [.str a, .str b, .tuple ((c ++ rs).take 4)]) hk hi asc ⟨a, b, _, rfl, wa, na, kb, all_take (all_app kc kr), by rw [List.length_take]; omega⟩ (by rw [e]; rfl)
    refine ⟨.tuple [.tuple rs, .list (its.set k (.tuple [.str a, .str b, .tuple ((c ++ rs).take 4)]))], (sSeq_nx n0).trans (sSeq_rt ((sIf_yes ((ceq 1).trans (by rw [decide_eq_true h1]))).trans ?_)), rs, _, rfl, r1, r4, kr, by rw [List.length_set]; omega, by rw [List.length_set]; omega, p.1, p.2⟩
    exact sRet_ok (fAll_ok (xs := [.dat (.tuple rs), .dat (.list (its.set k (.tuple [.str a, .str b, .tuple ((c ++ rs).take 4)])))]) (fCons_ok (S1 := S) rfl (fCons_ok (put _ _ it) fNil_eq)) (by simp [tupF, datsOf]))
  have n1 : ∀ f : SF, sIf (fCp eqD (fVarV 8) (fC (.int 1))) f .nx (ec inv rs its k a b c v) S = .nx (ec inv rs its k a b c v) S := fun f => sIf_no ((ceq 1).trans (by rw [decide_eq_false h1]))
  by_cases h2 : v = 2
  · obtain ⟨r0, rs', rfl⟩ : ∃ r0 rs', rs = r0 :: rs' := by
      cases rs with
      | nil => simp at r1
      | cons x y => exact ⟨x, y, rfl⟩
    have kr0 : kindB r0 = true := by rw [List.all_cons, Bool.and_eq_true] at kr; exact kr.1
    obtain ⟨z, rfl⟩ := kindB_str kr0
    have at0 : atI (PyData.str z :: rs') 0 = some (.str z) := atI_nat (j := 0) rfl
    have e1 : fOpE idxV (fVarV 2) (fC (.int 0)) (ec inv (.str z :: rs') its k a b c v) S = .ok (.dat (.str z)) S := fOpE_ok (S1 := S) (x := .dat (.tuple (.str z :: rs'))) (y := .dat (.int 0)) rfl rfl (by show (atI (PyData.str z :: rs') 0).map Vl.dat = _; rw [at0]; rfl)
    have e2 : fU revV2 (fVarV 7) (ec inv (.str z :: rs') its k a b c v) S = .ok (.dat (.tuple c.reverse)) S := fU_ok (x := .dat (.tuple c)) rfl rfl
    have e3 : fU revV2 (fVarV 2) (ec inv (.str z :: rs') its k a b c v) S = .ok (.dat (.tuple (.str z :: rs').reverse)) S := fU_ok (x := .dat (.tuple (.str z :: rs'))) rfl rfl
    generalize hR : (PyData.str z :: rs').reverse = R at *
    have it : fAll tupF (fCons (fVar 5) (fCons (fOpE idxV (fVarV 2) (fC (.int 0))) (fCons (fU revV2 (fVarV 7)) fNil))) (ec inv (.str z :: rs') its k a b c v) S = .ok (.dat (.tuple [.str a, .str z, .tuple c.reverse])) S :=
      fAll_ok (xs := [.dat (.str a), .dat (.str z), .dat (.tuple c.reverse)]) (fCons_ok (S1 := S) rfl (fCons_ok e1 (fCons_ok e2 fNil_eq))) (by simp [tupF, datsOf])
    have p := put_ok (x := .tuple [.str a, .str z, .tuple c.reverse]) hk hi asc ⟨a, z, _, rfl, wa, na, kr0, all_rev kc, by rw [List.length_reverse]; exact c4⟩ (by rw [e]; rfl)
    refine ⟨.tuple [.tuple R, .list (its.set k (.tuple [.str a, .str z, .tuple c.reverse]))], (sSeq_nx n0).trans ((sSeq_nx (n1 _)).trans (sSeq_rt ((sIf_yes ((ceq 2).trans (by rw [decide_eq_true h2]))).trans ?_))), R, _, rfl, by rw [← hR, List.length_reverse]; exact r1, by rw [← hR, List.length_reverse]; exact r4, by rw [← hR]; exact all_rev kr, by rw [List.length_set]; omega, by rw [List.length_set]; omega, p.1, p.2⟩
    exact sRet_ok (fAll_ok (xs := [.dat (.tuple R), .dat (.list (its.set k (.tuple [.str a, .str z, .tuple c.reverse])))]) (fCons_ok e3 (fCons_ok (put _ _ it) fNil_eq)) (by simp [tupF, datsOf]))
  have n2 : ∀ f : SF, sIf (fCp eqD (fVarV 8) (fC (.int 2))) f .nx (ec inv rs its k a b c v) S = .nx (ec inv rs its k a b c v) S := fun f => sIf_no ((ceq 2).trans (by rw [decide_eq_false h2]))
  have g1 : addV (.dat (.tuple rs)) (.dat (.tuple rs)) = some (.dat (.tuple (rs ++ rs))) := addV_tt (by omega)
  have sl : fSl (fOp addV (fVarV 2) (fVarV 2)) fNo (fPart (fC (.int 4))) (ec inv rs its k a b c v) S = .ok (.dat (.tuple ((rs ++ rs).take 4))) S := by
    rw [← cutP_take]
    generalize rs ++ rs = rr at *
    simp [ec, fSl, fPart, asInt, slV, fVarV, fOp, opF, g1]
  refine ⟨.tuple [.tuple ((rs ++ rs).take 4), .list its], (sSeq_nx n0).trans ((sSeq_nx (n1 _)).trans ((sSeq_nx (n2 _)).trans ?_)), _, its, rfl, by rw [List.length_take, List.length_append]; omega, by rw [List.length_take]; omega, all_take (all_app kr kr), by omega, i24, hi, asc⟩
  exact sRet_ok (fAll_ok (xs := [.dat (.tuple ((rs ++ rs).take 4)), .dat (.list its)]) (fCons_ok sl (fCons_ok (S1 := S) rfl fNil_eq)) (by simp [tupF, datsOf]))
theorem changed_eq {d : PyData} (h : InvOk d) (g : Gd t S) (ht : t ≤ 600000) : ∃ x S', F__law_changed [.src, .dat d] S = .ok (.dat x) S' ∧ InvOk x ∧ Gd (t + 2) S' := by
  obtain ⟨rs, its, hd, r1, r4, kr, i1, i24, hi, asc⟩ := h
  obtain ⟨k, S1, e1, hk, g1⟩ := draw_eq (n := its.length) g (by omega) (by omega) (by omega)
  obtain ⟨v, S2, e2, vl, g2⟩ := draw_eq (n := 4) g1 (by omega) (by omega) (by omega)
  obtain ⟨a, b, c, ek, _⟩ := hi _ (List.getElem_mem hk)
  obtain ⟨x, ex, ix⟩ := ch_eq (S := S2) (inv := d) (v := v) r1 r4 kr i24 hi asc hk ek
  refine ⟨x, S2, ?_, ix, g2⟩
  show defF 9 2 B__law_changed _ _ = _
  rw [defF_eq (by rfl)]
  have t1 : sUnp (.many [2, 3]) (fVar 1) [.fz .src, .fz (.dat d), .no, .no, .no, .no, .no, .no, .no] S = .nx [.fz .src, .fz (.dat d), .fz (.dat (.tuple rs)), .fz (.dat (.list its)), .no, .no, .no, .no, .no] S := by
    rw [hd]
    simp [sUnp, SOut.letV, fVar, bindT, setMany]
  have t2 : sSet 4 (fCall F__law_draw (fCons (fVar 0) (fCons (fAll lenF (fCons (fVarV 3) fNil)) fNil))) [.fz .src, .fz (.dat d), .fz (.dat (.tuple rs)), .fz (.dat (.list its)), .no, .no, .no, .no, .no] S = .nx [.fz .src, .fz (.dat d), .fz (.dat (.tuple rs)), .fz (.dat (.list its)), .fz (.dat (.int k)), .no, .no, .no, .no] S1 :=
    sSet_ok (fCall_ok (xs := [.src, .dat (.int its.length)]) rfl e1)
  have at0 : atI its (k : Int) = some (.tuple [.str a, .str b, .tuple c]) := atI_nat (by rw [List.getElem?_eq_getElem hk, ek])
  have t3 : sUnp (.many [5, 6, 7]) (fOpE idxV (fVarV 3) (fVarV 4)) [.fz .src, .fz (.dat d), .fz (.dat (.tuple rs)), .fz (.dat (.list its)), .fz (.dat (.int k)), .no, .no, .no, .no] S1 = .nx [.fz .src, .fz (.dat d), .fz (.dat (.tuple rs)), .fz (.dat (.list its)), .fz (.dat (.int k)), .fz (.dat (.str a)), .fz (.dat (.str b)), .fz (.dat (.tuple c)), .no] S1 := by
    simp [sUnp, SOut.letV, fOpE, fVarV, idxV, at0, bindT, setMany]
  have t4 : sSet 8 (fCall F__law_draw (fCons (fVar 0) (fCons (fC (.int 4)) fNil))) [.fz .src, .fz (.dat d), .fz (.dat (.tuple rs)), .fz (.dat (.list its)), .fz (.dat (.int k)), .fz (.dat (.str a)), .fz (.dat (.str b)), .fz (.dat (.tuple c)), .no] S1 = .nx (ec d rs its k a b c v) S2 :=
    sSet_ok (fCall_ok (xs := [.src, .dat (.int 4)]) rfl e2)
  have all : B__law_changed [.fz .src, .fz (.dat d), .no, .no, .no, .no, .no, .no, .no] S = .rt (.dat x) S2 :=
    (sSeq_nx t1).trans ((sSeq_nx t2).trans ((sSeq_nx t3).trans ((sSeq_nx t4).trans ex)))
  show (B__law_changed [.fz .src, .fz (.dat d), .no, .no, .no, .no, .no, .no, .no] S).out = _
  rw [all]
  rfl
end
end K02

namespace K02
open PySem PySem.Spec PyProof.Rows L2 L2.HL
/-! ### the table of slots, entry by entry -/
def slotE (nm : Str) : Nat → List PyData → List (PyData × PyData)
  | _, [] => []
  | i, k :: r => (.tuple [.str nm, .int i], k) :: slotE nm (i + 1) r
def itemsE : List PyData → List (PyData × PyData)
  | .tuple [.str a, _, .tuple c] :: r => slotE a 0 c ++ itemsE r
  | _ => []
def allE (rs its : List PyData) : List (PyData × PyData) := slotE "" 0 rs ++ itemsE its
theorem slotE_snoc (nm : Str) : ∀ (c : List PyData) (i : Nat) (k : PyData), slotE nm i (c ++ [k]) = slotE nm i c ++ [(.tuple [.str nm, .int ((i + c.length : Nat) : Int)], k)]
  | [], i, k => rfl
  | x :: c, i, k => by
    show _ :: slotE nm (i + 1) (c ++ [k]) = _ :: (slotE nm (i + 1) c ++ _)
    rw [slotE_snoc nm c (i + 1) k, List.length_cons, show i + 1 + c.length = i + (c.length + 1) by omega]
theorem slotE_keys {nm : Str} : ∀ {c : List PyData} {i : Nat}, ∀ kv ∈ slotE nm i c, ∃ j : Nat, kv.1 = .tuple [.str nm, .int j] ∧ i ≤ j ∧ j < i + c.length
  | [], _, kv, m => absurd m List.not_mem_nil
  | x :: c, i, kv, m => by
    have m' : kv ∈ (PyData.tuple [.str nm, .int i], x) :: slotE nm (i + 1) c := m
    rcases List.mem_cons.mp m' with rfl | m'
    · exact ⟨i, rfl, Nat.le_refl _, by rw [List.length_cons]; omega⟩
    · obtain ⟨j, e, h1, h2⟩ := slotE_keys kv m'
      exact ⟨j, e, by omega, by rw [List.length_cons]; omega⟩
theorem slotE_len {nm : Str} : ∀ {c : List PyData} {i : Nat}, (slotE nm i c).length = c.length
  | [], _ => rfl
  | x :: c, i => by show (slotE nm (i + 1) c).length + 1 = _; rw [slotE_len]; rfl
theorem slotE_vals {nm : Str} : ∀ {c : List PyData} {i : Nat}, (slotE nm i c).map (·.2) = c
  | [], _ => rfl
  | x :: c, i => by show x :: (slotE nm (i + 1) c).map (·.2) = _; rw [slotE_vals]
theorem key_eqv (x y : Str) (i j : Int) : PyData.eqv (.tuple [.str x, .int i]) (.tuple [.str y, .int j]) = (decide (x = y) && decide (i = j)) := by
  simp only [PyData.eqv, PyData.eqvAll, Bool.and_true, Bool.beq_eq_decide_eq]
theorem putP_new {kvs : List (PyData × PyData)} {k d : PyData} (h : ∀ kv ∈ kvs, PyData.eqv kv.1 k = false) : putP kvs k d = kvs ++ [(k, d)] := by
  unfold putP
  rw [if_neg]
  intro z
  obtain ⟨kv, m, e⟩ := List.any_eq_true.mp z
  rw [h kv m] at e
  cases e
def NoName (x : Str) (r : List PyData) : Prop := ∀ d ∈ r, head0 d ≠ some x
/-- pairs whose names stand in none of these items -/
def KeyN (kvs : List (PyData × PyData)) (r : List PyData) : Prop := ∀ kv ∈ kvs, ∃ (x : Str) (i : Int), kv.1 = .tuple [.str x, .int i] ∧ NoName x r
theorem KeyN.tup {kvs : List (PyData × PyData)} {r : List PyData} (h : KeyN kvs r) : ∀ kv ∈ kvs, TupK kv.1 := fun kv m => by
  obtain ⟨x, i, e, _⟩ := h kv m
  exact ⟨x, i, e⟩
theorem lt_ne {a b : Str} (h : a.cps.toList < b.cps.toList) : a ≠ b := fun z => by
  rw [z] at h
  exact absurd h (List.lt_irrefl _)
section
variable {S : Src} {v : PyData} {rs its0 : List PyData}
abbrev es (v : PyData) (rs its0 : List PyData) (kvs : List (PyData × PyData)) (s4 s5 s6 s7 s8 : Sl) : En := [.fz (.dat v), .fz (.dat (.tuple rs)), .fz (.dat (.list its0)), .ow (.dic kvs), s4, s5, s6, s7, s8]
def B_in : SF := sFor (fEnum (fCons (fVar 6) fNil)) (.many [7, 8]) (sPutD 3 (fAll tupF (fCons (fVar 4) (fCons (fVar 7) fNil))) (fVar 8))
theorem in_eq {kvs : List (PyData × PyData)} {a b : Str} {c : List PyData} {s7 s8 : Sl} (hk : ∀ kv ∈ kvs, ∃ (x : Str) (i : Int), kv.1 = .tuple [.str x, .int i] ∧ x ≠ a) (hl : kvs.length + c.length ≤ 1000) :
    ∃ s7' s8', B_in (es v rs its0 kvs (.fz (.dat (.str a))) (.fz (.dat (.str b))) (.fz (.dat (.tuple c))) s7 s8) S = .nx (es v rs its0 (kvs ++ slotE a 0 c) (.fz (.dat (.str a))) (.fz (.dat (.str b))) (.fz (.dat (.tuple c))) s7' s8') S := by
  obtain ⟨ρ', S', e, rfl, t7, t8, rfl⟩ := sFor_inv (t := .many [7, 8]) (f := sPutD 3 (fAll tupF (fCons (fVar 4) (fCons (fVar 7) fNil))) (fVar 8)) (lf := fEnum (fCons (fVar 6) fNil)) (ds := enumD c)
    (ρ := es v rs its0 kvs (.fz (.dat (.str a))) (.fz (.dat (.str b))) (.fz (.dat (.tuple c))) s7 s8) (S := S) (S1 := S)
    (fun j ρ S' => S' = S ∧ ∃ s7 s8, ρ = es v rs its0 (kvs ++ slotE a 0 (c.take j)) (.fz (.dat (.str a))) (.fz (.dat (.str b))) (.fz (.dat (.tuple c))) s7 s8) (by simp [es, fEnum, fCons, fVar, enumF]) (fun j d ρ S2 hd hi => by
      obtain ⟨rfl, s7, s8, rfl⟩ := hi
      obtain ⟨x, hx, rfl⟩ := enumD_at hd
      have jl : j < c.length := (List.getElem?_eq_some_iff.mp hx).1
      have tk : c.take (j + 1) = c.take j ++ [x] := by rw [List.take_add_one, hx]; rfl
      have lt : (c.take j).length = j := by rw [List.length_take]; omega
      have fresh : ∀ kv ∈ kvs ++ slotE a 0 (c.take j), PyData.eqv kv.1 (.tuple [.str a, .int j]) = false := fun kv m => by
        rcases List.mem_append.mp m with m | m
        · obtain ⟨y, i, e, ne⟩ := hk kv m
          rw [e, key_eqv, decide_eq_false ne, Bool.false_and]
        · obtain ⟨i, e, _, h2⟩ := slotE_keys kv m
          rw [lt] at h2
          rw [e, key_eqv, decide_eq_false (show ¬ ((i : Int) = (j : Int)) by omega), Bool.and_false]
      have tups : ∀ kv ∈ kvs ++ slotE a 0 (c.take j), TupK kv.1 := fun kv m => by
        rcases List.mem_append.mp m with m | m
        · obtain ⟨y, i, e, _⟩ := hk kv m
          exact ⟨y, i, e⟩
        · obtain ⟨i, e, _⟩ := slotE_keys kv m
          exact ⟨a, i, e⟩
      have ll : (kvs ++ slotE a 0 (c.take j)).length < 16000000 := by rw [List.length_append, slotE_len, lt]; omega
      have new := putP_new (d := x) fresh
      refine ⟨_, es v rs its0 (kvs ++ slotE a 0 (c.take (j + 1))) (.fz (.dat (.str a))) (.fz (.dat (.str b))) (.fz (.dat (.tuple c))) (.fz (.dat (.int j))) (.fz (.dat x)), S2, rfl, ?_, rfl, _, _, rfl⟩
      rw [tk, slotE_snoc, lt, Nat.zero_add, ← List.append_assoc, ← new]
      have tb := tbl_of (a := a) (b := (j : Int)) tups
      generalize kvs ++ slotE a 0 (c.take j) = K at *
      simp [es, sPutD, SOut.letV, setMany, fAll, fCons, fVar, tupF, datsOf, putV, tb, ll]) ⟨rfl, s7, s8, by simp [slotE]⟩
  rw [enumD_len, List.take_length] at e
  exact ⟨t7, t8, e⟩
theorem out_eq : ∀ {r : List PyData} {kvs : List (PyData × PyData)} {s4 s5 s6 s7 s8 : Sl}, (∀ d ∈ r, ItemS d) → Asc r → KeyN kvs r → kvs.length + 4 * r.length ≤ 1000 →
    ∃ s4' s5' s6' s7' s8', sForL (.many [4, 5, 6]) B_in r (es v rs its0 kvs s4 s5 s6 s7 s8) S = .nx (es v rs its0 (kvs ++ itemsE r) s4' s5' s6' s7' s8') S
  | [], kvs, s4, s5, s6, s7, s8, _, _, _, _ => ⟨s4, s5, s6, s7, s8, by rw [sForL_nil]; simp [itemsE]⟩
  | it :: r, kvs, s4, s5, s6, s7, s8, hi, asc, hk, hl => by
    obtain ⟨a, b, c, rfl, wa, na, kb, kc, c4⟩ := hi it List.mem_cons_self
    have s2 := List.pairwise_cons.mp asc
    rw [List.length_cons] at hl
    obtain ⟨t7, t8, e1⟩ := in_eq (S := S) (v := v) (rs := rs) (its0 := its0) (kvs := kvs) (a := a) (b := b) (c := c) (s7 := s7) (s8 := s8) (fun kv m => by
      obtain ⟨x, i, e, nn⟩ := hk kv m
      exact ⟨x, i, e, fun z => nn _ List.mem_cons_self (by rw [z]; rfl)⟩) (by omega)
    have hk2 : KeyN (kvs ++ slotE a 0 c) r := fun kv m => by
      rcases List.mem_append.mp m with m | m
      · obtain ⟨x, i, e, nn⟩ := hk kv m
        exact ⟨x, i, e, fun d md => nn d (List.mem_cons_of_mem _ md)⟩
      · obtain ⟨j, e, _⟩ := slotE_keys kv m
        refine ⟨a, j, e, fun d md z => ?_⟩
        obtain ⟨a1, b1, e1, e2, lt⟩ := s2.1 d md
        cases e1
        rw [e2] at z
        exact lt_ne lt (Option.some.inj z).symm
    obtain ⟨q4, q5, q6, q7, q8, e2⟩ := out_eq (r := r) (kvs := kvs ++ slotE a 0 c) (s4 := .fz (.dat (.str a))) (s5 := .fz (.dat (.str b))) (s6 := .fz (.dat (.tuple c))) (s7 := t7) (s8 := t8) (fun d m => hi d (List.mem_cons_of_mem _ m)) s2.2 hk2 (by rw [List.length_append, slotE_len]; omega)
    refine ⟨q4, q5, q6, q7, q8, ?_⟩
    rw [sForL_nx (S' := S) (ρ1 := es v rs its0 kvs (.fz (.dat (.str a))) (.fz (.dat (.str b))) (.fz (.dat (.tuple c))) s7 s8) rfl e1, e2, List.append_assoc]
    rfl
theorem slot_kinds_all {rs its : List PyData} (r4 : rs.length ≤ 4) (i24 : its.length ≤ 24) (hi : ∀ d ∈ its, ItemS d) (asc : Asc its) : F_slot_kinds [.dat (.tuple [.tuple rs, .list its])] S = .ok (.dic (allE rs its)) S := by
  generalize hv : PyData.tuple [.tuple rs, .list its] = v
  obtain ⟨kvs, S', e0, rfl, rfl⟩ := dc_inv (kd := true) (t := .many [7, 5]) (vs := [7, 5]) (c := fun _ S => .ok true S) (uk := fAll tupF (fCons (fC (.str "")) (fCons (fVar 7) fNil))) (uv := fVar 5) (ρ := [.fz (.dat v), .fz (.dat (.tuple rs)), .fz (.dat (.list its)), .no, .no, .no, .no, .no, .no]) (lf := fEnum (fCons (fVar 1) fNil)) (ds := enumD rs) (S := S) (S1 := S)
    (fun j acc S' => S' = S ∧ acc = slotE "" 0 (rs.take j)) (by simp [fEnum, fCons, fVar, enumF]) (fun j d acc S1 hd hi => by
      obtain ⟨x, hx, rfl⟩ := enumD_at hd
      obtain ⟨rfl, rfl⟩ := hi
      have jl : j < rs.length := (List.getElem?_eq_some_iff.mp hx).1
      have tk : rs.take (j + 1) = rs.take j ++ [x] := by rw [List.take_add_one, hx]; rfl
      have lt : (rs.take j).length = j := by rw [List.length_take]; omega
      refine ⟨[.fz (.dat v), .fz (.dat (.tuple rs)), .fz (.dat (.list its)), .no, .no, .fz (.dat x), .no, .fz (.dat (.int j)), .no], true, S1, rfl, rfl, (fun z => nomatch z), fun _ => ⟨.tuple [.str "", .int j], x, S1, S1, by simp [fAll, fCons, fVar, tupF, datsOf], by simp [fVar], rfl, by rw [slotE_len, lt]; omega, rfl, ?_⟩⟩
      rw [putP_new, tk, slotE_snoc, lt, Nat.zero_add]
      intro kv m
      obtain ⟨i, e, _, h2⟩ := slotE_keys kv m
      rw [lt] at h2
      rw [e, key_eqv, decide_eq_false (show ¬ ((i : Int) = (j : Int)) by omega), Bool.and_false]) ⟨rfl, rfl⟩
  rw [enumD_len, List.take_length] at e0
  obtain ⟨q4, q5, q6, q7, q8, e1⟩ := out_eq (S := S') (v := v) (rs := rs) (its0 := its) (r := its) (kvs := slotE "" 0 rs) (s4 := .no) (s5 := .no) (s6 := .no) (s7 := .no) (s8 := .no) hi asc (fun kv m => by
    obtain ⟨j, e, _⟩ := slotE_keys kv m
    refine ⟨"", j, e, fun d md z => ?_⟩
    obtain ⟨a, b, c, rfl, wa, _⟩ := hi d md
    cases z
    exact absurd wa (by decide +kernel)) (by rw [slotE_len]; omega)
  show defF 9 1 B_slot_kinds _ _ = _
  rw [defF_eq (by rfl)]
  have t1 : sUnp (.many [1, 2]) (fVar 0) [.fz (.dat v), .no, .no, .no, .no, .no, .no, .no, .no] S' = .nx [.fz (.dat v), .fz (.dat (.tuple rs)), .fz (.dat (.list its)), .no, .no, .no, .no, .no, .no] S' := by
    rw [← hv]
    simp [sUnp, SOut.letV, fVar, bindT, setMany]
  have t2 := sOwn_ok (i := 3) e0 rfl
  have t3 : sFor (fIt (fVar 2)) (.many [4, 5, 6]) B_in (es v rs its (slotE "" 0 rs) .no .no .no .no .no) S' = .nx (es v rs its (allE rs its) q4 q5 q6 q7 q8) S' := by
    rw [sFor_eq (show fIt (fVar 2) (es v rs its (slotE "" 0 rs) .no .no .no .no .no) S' = .ok its S' from rfl)]
    exact e1
  have all : B_slot_kinds [.fz (.dat v), .no, .no, .no, .no, .no, .no, .no, .no] S' = .rt (.dic (allE rs its)) S' :=
    (sSeq_nx t1).trans ((sSeq_nx t2).trans ((sSeq_nx t3).trans rfl))
  show (B_slot_kinds [.fz (.dat v), .no, .no, .no, .no, .no, .no, .no, .no] S').out = _
  rw [all]
  rfl
end
end K02

namespace K02
open PySem PySem.Spec PyProof.Rows L2 L2.HL
/-! ### the law's own lists: the places, what they accept, the kinds -/
def kS1 : List PyData → List Str
  | .tuple [_, .str b, .tuple _] :: r => b :: kS1 r
  | _ => []
def kS2 : List PyData → List Str
  | .tuple [_, .str _, .tuple c] :: r => txts c ++ kS2 r
  | _ => []
def nmS : List PyData → List Str
  | .tuple [.str a, .str _, .tuple _] :: r => a :: nmS r
  | _ => []
theorem txts_k {c : List PyData} (h : c.all kindB = true) : c = (txts c).map .str := txts_of (kindsB_words h)
theorem allE_vals {rs : List PyData} (kr : rs.all kindB = true) : ∀ {its : List PyData}, (∀ d ∈ its, ItemS d) → (itemsE its).map (·.2) = (kS2 its).map .str
  | [], _ => rfl
  | it :: r, hi => by
    obtain ⟨a, b, c, rfl, wa, na, kb, kc, c4⟩ := hi it List.mem_cons_self
    show (slotE a 0 c ++ itemsE r).map (·.2) = (txts c ++ kS2 r).map .str
    rw [List.map_append, List.map_append, slotE_vals, allE_vals kr fun d m => hi d (List.mem_cons_of_mem _ m), ← txts_k kc]
theorem kS1_len : ∀ {its : List PyData}, (∀ d ∈ its, ItemS d) → (kS1 its).length = its.length
  | [], _ => rfl
  | it :: r, hi => by
    obtain ⟨a, b, c, rfl, wa, na, kb, kc, c4⟩ := hi it List.mem_cons_self
    show (kS1 r).length + 1 = _
    rw [kS1_len fun d m => hi d (List.mem_cons_of_mem _ m)]
    rfl
theorem kS2_len : ∀ {its : List PyData}, (∀ d ∈ its, ItemS d) → (kS2 its).length ≤ 4 * its.length
  | [], _ => Nat.zero_le _
  | it :: r, hi => by
    obtain ⟨a, b, c, rfl, wa, na, kb, kc, c4⟩ := hi it List.mem_cons_self
    have ih := kS2_len (its := r) fun d m => hi d (List.mem_cons_of_mem _ m)
    have := txts_len (kindsB_words kc)
    show (txts c ++ kS2 r).length ≤ 4 * (r.length + 1)
    rw [List.length_append]
    omega
theorem kS_mem {x : Str} : ∀ {its : List PyData}, (∀ d ∈ its, ItemS d) → (x ∈ kindsItems its ↔ x ∈ kS1 its ∨ x ∈ kS2 its)
  | [], _ => by simp [kindsItems, kS1, kS2]
  | it :: r, hi => by
    obtain ⟨a, b, c, rfl, wa, na, kb, kc, c4⟩ := hi it List.mem_cons_self
    have ih := kS_mem (x := x) (its := r) fun d m => hi d (List.mem_cons_of_mem _ m)
    show x ∈ b :: (txts c ++ kindsItems r) ↔ x ∈ b :: kS1 r ∨ x ∈ txts c ++ kS2 r
    simp only [List.mem_cons, List.mem_append, ih]
    constructor
    · rintro (h | h | h | h)
      · exact .inl (.inl h)
      · exact .inr (.inl h)
      · exact .inl (.inr h)
      · exact .inr (.inr h)
    · rintro ((h | h) | (h | h))
      · exact .inl h
      · exact .inr (.inr (.inl h))
      · exact .inr (.inl h)
      · exact .inr (.inr (.inr h))
section
variable {S : Src} {rs its : List PyData}
theorem slotE_fst (nm : Str) : ∀ (c : List PyData) (i : Nat), (slotE nm i c).map (·.1) = (rngFrom i c.length).map fun d => .tuple [.str nm, d]
  | [], _ => rfl
  | x :: c, i => by
    show PyData.tuple [.str nm, .int i] :: (slotE nm (i + 1) c).map (·.1) = PyData.tuple [.str nm, .int i] :: (rngFrom (i + 1) c.length).map _
    rw [slotE_fst nm c (i + 1)]
theorem law_slots_eq (r4 : rs.length ≤ 4) (i24 : its.length ≤ 24) (hi : ∀ d ∈ its, ItemS d) : F__law_slots [.dat (.tuple [.tuple rs, .list its])] S = .ok (.dat (.list ((allE rs its).map (·.1)))) S := by
  have p0 : atI [PyData.tuple rs, .list its] 0 = some (.tuple rs) := rfl
  have p1 : atI [PyData.tuple rs, .list its] 1 = some (.list its) := rfl
  generalize hv : PyData.tuple [.tuple rs, .list its] = v
  have i0 : ∀ (ρ : En) (S : Src), ρ[0]? = some (.fz (.dat v)) → fOpE idxV (fVarV 0) (fC (.int 0)) ρ S = .ok (.dat (.tuple rs)) S := fun ρ S h => by
    refine fOpE_ok (x := .dat v) (y := .dat (.int 0)) (by unfold fVarV; rw [h]) rfl ?_
    rw [← hv]
    show (atI [PyData.tuple rs, .list its] 0).map Vl.dat = _
    rw [p0]
    rfl
  have i1 : ∀ (ρ : En) (S : Src), ρ[0]? = some (.fz (.dat v)) → fOpE idxV (fVarV 0) (fC (.int 1)) ρ S = .ok (.dat (.list its)) S := fun ρ S h => by
    refine fOpE_ok (x := .dat v) (y := .dat (.int 1)) (by unfold fVarV; rw [h]) rfl ?_
    rw [← hv]
    show (atI [PyData.tuple rs, .list its] 1).map Vl.dat = _
    rw [p1]
    rfl
  have t1 : sSet 1 (fLc (fRng1 (fCons (fAll lenF (fCons (fOpE idxV (fVarV 0) (fC (.int 0))) fNil)) fNil)) (.one 5) [5] (fun _ S => .ok true S) (fAll tupF (fCons (fC (.str "")) (fCons (fVar 5) fNil)))) [.fz (.dat v), .no, .no, .no, .no, .no] S = .nx [.fz (.dat v), .fz (.dat (.list ((slotE "" 0 rs).map (·.1)))), .no, .no, .no, .no] S := by
    refine sSet_ok ?_
    rw [slotE_fst]
    refine lc_map (rng1_eq (fCons_ok (fAll_ok (fCons_ok (i0 _ S rfl) fNil_eq) rfl) fNil_eq) (by omega)) _ (fun d m => ⟨[.fz (.dat v), .no, .no, .no, .no, .fz (.dat d)], rfl, by simp [fAll, fCons, fVar, tupF, datsOf]⟩) (by rw [rngFrom_len]; omega)
  obtain ⟨ρ', S', e2, rfl, q2, q3, q4, rfl⟩ := sFor_inv (t := .many [2, 3, 4]) (f := sSet 1 (fOp addV (fVarV 1) (fLc (fRng1 (fCons (fAll lenF (fCons (fVarV 4) fNil)) fNil)) (.one 5) [5] (fun _ S => .ok true S) (fAll tupF (fCons (fVar 2) (fCons (fVar 5) fNil)))))) (lf := fIt (fOpE idxV (fVarV 0) (fC (.int 1)))) (ds := its)
    (ρ := [.fz (.dat v), .fz (.dat (.list ((slotE "" 0 rs).map (·.1)))), .no, .no, .no, .no]) (S := S) (S1 := S)
    (fun j ρ S' => S' = S ∧ ∃ s2 s3 s4, ρ = [.fz (.dat v), .fz (.dat (.list ((allE rs (its.take j)).map (·.1)))), s2, s3, s4, .no]) (fIt_ok (i1 _ S rfl) rfl) (fun j d ρ S2 hd hj => by
      obtain ⟨rfl, s2, s3, s4, rfl⟩ := hj
      have jl : j < its.length := (List.getElem?_eq_some_iff.mp hd).1
      obtain ⟨a, b, c, rfl, wa, na, kb, kc, c4⟩ := hi d (List.mem_of_getElem? hd)
      have tk : its.take (j + 1) = its.take j ++ [.tuple [.str a, .str b, .tuple c]] := by rw [List.take_add_one, hd]; rfl
      have ap : allE rs (its.take (j + 1)) = allE rs (its.take j) ++ slotE a 0 c := by
        rw [tk]
        have : ∀ l : List PyData, (∀ d ∈ l, ItemS d) → itemsE (l ++ [.tuple [.str a, .str b, .tuple c]]) = itemsE l ++ slotE a 0 c := fun l => by
          induction l with
          | nil => intro _; show slotE a 0 c ++ [] = _; rw [List.append_nil]; rfl
          | cons y l ih =>
            intro hl
            obtain ⟨a', b', c', rfl, _⟩ := hl y List.mem_cons_self
            show slotE a' 0 c' ++ itemsE (l ++ [_]) = (slotE a' 0 c' ++ itemsE l) ++ _
            rw [ih fun d m => hl d (List.mem_cons_of_mem _ m), List.append_assoc]
        unfold allE
        rw [this _ fun d m => hi d (List.mem_of_mem_take m), List.append_assoc]
      have ln : (allE rs (its.take j)).length ≤ 200 := by
        have : ∀ l : List PyData, (∀ d ∈ l, ItemS d) → (itemsE l).length ≤ 4 * l.length := fun l => by
          induction l with
          | nil => intro _; exact Nat.zero_le _
          | cons y l ih =>
            intro hl
            obtain ⟨a', b', c', rfl, _, _, _, _, c4'⟩ := hl y List.mem_cons_self
            have := ih fun d m => hl d (List.mem_cons_of_mem _ m)
            show (slotE a' 0 c' ++ itemsE l).length ≤ 4 * (l.length + 1)
            rw [List.length_append, slotE_len]
            omega
        have := this (its.take j) fun d m => hi d (List.mem_of_mem_take m)
        unfold allE
        rw [List.length_append, slotE_len]
        rw [List.length_take] at this
        omega
      refine ⟨[.fz (.dat v), .fz (.dat (.list ((allE rs (its.take j)).map (·.1)))), .fz (.dat (.str a)), .fz (.dat (.str b)), .fz (.dat (.tuple c)), .no], [.fz (.dat v), .fz (.dat (.list ((allE rs (its.take (j + 1))).map (·.1)))), .fz (.dat (.str a)), .fz (.dat (.str b)), .fz (.dat (.tuple c)), .no], S2, rfl, ?_, rfl, _, _, _, rfl⟩
      rw [ap, List.map_append]
      have ln2 : ((allE rs (its.take j)).map (·.1)).length ≤ 200 := by rw [List.length_map]; exact ln
      generalize (allE rs (its.take j)).map (·.1) = acc at *
      have lc : fLc (fRng1 (fCons (fAll lenF (fCons (fVarV 4) fNil)) fNil)) (.one 5) [5] (fun _ S => .ok true S) (fAll tupF (fCons (fVar 2) (fCons (fVar 5) fNil))) [.fz (.dat v), .fz (.dat (.list acc)), .fz (.dat (.str a)), .fz (.dat (.str b)), .fz (.dat (.tuple c)), .no] S2 = .ok (.dat (.list ((slotE a 0 c).map (·.1)))) S2 := by
        rw [slotE_fst]
        exact lc_map (rng1_eq (by simp [fCons, fAll, fVarV, lenF]) (by omega)) _ (fun d m => ⟨[.fz (.dat v), .fz (.dat (.list acc)), .fz (.dat (.str a)), .fz (.dat (.str b)), .fz (.dat (.tuple c)), .fz (.dat d)], rfl, by simp [fAll, fCons, fVar, tupF, datsOf]⟩) (by rw [rngFrom_len]; omega)
      exact sSet_ok (fOp_ok (S1 := S2) (x := .dat (.list acc)) rfl lc (addV_ll (by
        rw [List.length_map, slotE_len]; omega)))) ⟨rfl, .no, .no, .no, by simp [allE, itemsE]⟩
  rw [List.take_length] at e2
  show defF 6 1 B__law_slots _ _ = _
  rw [defF_eq (by rfl)]
  have all : B__law_slots [.fz (.dat v), .no, .no, .no, .no, .no] S' = .rt (.dat (.list ((allE rs its).map (·.1)))) S' := (sSeq_nx t1).trans ((sSeq_nx e2).trans rfl)
  show (B__law_slots [.fz (.dat v), .no, .no, .no, .no, .no] S').out = _
  rw [all]
  rfl
end
end K02

namespace K02
open PySem PySem.Spec PyProof.Rows L2 L2.HL
section
variable {S : Src} {rs its : List PyData}
def nameE : List PyData → List (PyData × PyData)
  | .tuple [.str a, k, _] :: r => (.str a, k) :: nameE r
  | _ => []
theorem nameE_vals : ∀ {its : List PyData}, (∀ d ∈ its, ItemS d) → (nameE its).map (·.2) = (kS1 its).map .str
  | [], _ => rfl
  | it :: r, hi => by
    obtain ⟨a, b, c, rfl, _⟩ := hi it List.mem_cons_self
    show PyData.str b :: (nameE r).map (·.2) = .str b :: (kS1 r).map .str
    rw [nameE_vals fun d m => hi d (List.mem_cons_of_mem _ m)]
theorem kS2_snoc {a b : Str} {c : List PyData} : ∀ {l : List PyData}, (∀ d ∈ l, ItemS d) → kS2 (l ++ [.tuple [.str a, .str b, .tuple c]]) = kS2 l ++ txts c
  | [], _ => by show txts c ++ [] = [] ++ txts c; simp
  | y :: l, hl => by
    obtain ⟨a', b', c', rfl, _⟩ := hl y List.mem_cons_self
    show txts c' ++ kS2 (l ++ [_]) = (txts c' ++ kS2 l) ++ _
    rw [kS2_snoc fun d m => hl d (List.mem_cons_of_mem _ m), List.append_assoc]
theorem law_accepted_eq (r4 : rs.length ≤ 4) (i24 : its.length ≤ 24) (hi : ∀ d ∈ its, ItemS d) : F__law_accepted [.dat (.tuple [.tuple rs, .list its])] S = .ok (.dat (.list (rs ++ (kS2 its).map .str))) S := by
  have p0 : atI [PyData.tuple rs, .list its] 0 = some (.tuple rs) := rfl
  have p1 : atI [PyData.tuple rs, .list its] 1 = some (.list its) := rfl
  generalize hv : PyData.tuple [.tuple rs, .list its] = v
  have i0 : ∀ (ρ : En) (S : Src), ρ[0]? = some (.fz (.dat v)) → fOpE idxV (fVarV 0) (fC (.int 0)) ρ S = .ok (.dat (.tuple rs)) S := fun ρ S h => by
    refine fOpE_ok (x := .dat v) (y := .dat (.int 0)) (by unfold fVarV; rw [h]) rfl ?_
    rw [← hv]
    show (atI [PyData.tuple rs, .list its] 0).map Vl.dat = _
    rw [p0]
    rfl
  have i1 : ∀ (ρ : En) (S : Src), ρ[0]? = some (.fz (.dat v)) → fOpE idxV (fVarV 0) (fC (.int 1)) ρ S = .ok (.dat (.list its)) S := fun ρ S h => by
    refine fOpE_ok (x := .dat v) (y := .dat (.int 1)) (by unfold fVarV; rw [h]) rfl ?_
    rw [← hv]
    show (atI [PyData.tuple rs, .list its] 1).map Vl.dat = _
    rw [p1]
    rfl
  have t1 : sSet 1 (fAll listF2 (fCons (fOpE idxV (fVarV 0) (fC (.int 0))) fNil)) [.fz (.dat v), .no, .no, .no, .no] S = .nx [.fz (.dat v), .fz (.dat (.list rs)), .no, .no, .no] S := sSet_ok (fAll_ok (fCons_ok (i0 _ S rfl) fNil_eq) rfl)
  obtain ⟨ρ', S', e2, rfl, q2, q3, q4, rfl⟩ := sFor_inv (t := .many [2, 3, 4]) (f := sSet 1 (fOp addV (fVarV 1) (fAll listF2 (fCons (fVarV 4) fNil)))) (lf := fIt (fOpE idxV (fVarV 0) (fC (.int 1)))) (ds := its)
    (ρ := [.fz (.dat v), .fz (.dat (.list rs)), .no, .no, .no]) (S := S) (S1 := S)
    (fun j ρ S' => S' = S ∧ ∃ s2 s3 s4, ρ = [.fz (.dat v), .fz (.dat (.list (rs ++ (kS2 (its.take j)).map .str))), s2, s3, s4]) (fIt_ok (i1 _ S rfl) rfl) (fun j d ρ S2 hd hj => by
      obtain ⟨rfl, s2, s3, s4, rfl⟩ := hj
      have jl : j < its.length := (List.getElem?_eq_some_iff.mp hd).1
      obtain ⟨a, b, c, rfl, wa, na, kb, kc, c4⟩ := hi d (List.mem_of_getElem? hd)
      have tk : its.take (j + 1) = its.take j ++ [.tuple [.str a, .str b, .tuple c]] := by rw [List.take_add_one, hd]; rfl
      have ht : ∀ d ∈ its.take j, ItemS d := fun d m => hi d (List.mem_of_mem_take m)
      have ln := kS2_len ht
      rw [List.length_take] at ln
      refine ⟨[.fz (.dat v), .fz (.dat (.list (rs ++ (kS2 (its.take j)).map .str))), .fz (.dat (.str a)), .fz (.dat (.str b)), .fz (.dat (.tuple c))], _, S2, rfl, sSet_ok (fOp_ok (S1 := S2) (x := .dat (.list (rs ++ (kS2 (its.take j)).map .str))) (y := .dat (.list c)) rfl rfl (addV_ll (by simp only [List.length_append, List.length_map]; omega))), rfl, .fz (.dat (.str a)), .fz (.dat (.str b)), .fz (.dat (.tuple c)), ?_⟩
      rw [tk, kS2_snoc ht, List.map_append, ← txts_k kc, ← List.append_assoc]
      rfl) ⟨rfl, .no, .no, .no, by simp [kS2]⟩
  rw [List.take_length] at e2
  show defF 5 1 B__law_accepted _ _ = _
  rw [defF_eq (by rfl)]
  have all : B__law_accepted [.fz (.dat v), .no, .no, .no, .no] S' = .rt (.dat (.list (rs ++ (kS2 its).map .str))) S' := (sSeq_nx t1).trans ((sSeq_nx e2).trans rfl)
  show (B__law_accepted [.fz (.dat v), .no, .no, .no, .no] S').out = _
  rw [all]
  rfl
theorem names_dc {v : PyData} : ∀ {r : List PyData} {acc : List (PyData × PyData)}, (∀ d ∈ r, ItemS d) → Asc r → (∀ kv ∈ acc, ∃ x : Str, kv.1 = .str x ∧ NoName x r) → acc.length + r.length ≤ 1000 →
    dcL false (.many [1, 2, 3]) [1, 2, 3] (fun _ S => .ok true S) (fVar 1) (fVar 2) r acc [.fz (.dat v), .no, .no, .no] S = .ok (acc ++ nameE r) S
  | [], acc, _, _, _, _ => by unfold dcL; simp [nameE]
  | it :: r, acc, hi, asc, hk, hl => by
    obtain ⟨a, b, c, rfl, _⟩ := hi it List.mem_cons_self
    have s2 := List.pairwise_cons.mp asc
    rw [List.length_cons] at hl
    have new : putP acc (.str a) (.str b) = acc ++ [(.str a, .str b)] := putP_new fun kv m => by
      obtain ⟨x, e, nn⟩ := hk kv m
      have ne : x ≠ a := fun z => nn _ List.mem_cons_self (by rw [z]; rfl)
      rw [e, PyData.eqv]
      exact beq_eq_false_iff_ne.mpr ne
    have ih := names_dc (v := v) (r := r) (acc := acc ++ [(.str a, .str b)]) (fun d m => hi d (List.mem_cons_of_mem _ m)) s2.2 (fun kv m => by
      rcases List.mem_append.mp m with m | m
      · obtain ⟨x, e, nn⟩ := hk kv m
        exact ⟨x, e, fun d md => nn d (List.mem_cons_of_mem _ md)⟩
      · obtain rfl := List.mem_singleton.mp m
        refine ⟨a, rfl, fun d md z => ?_⟩
        obtain ⟨a1, b1, e1, e2, lt⟩ := s2.1 d md
        cases e1
        rw [e2] at z
        exact lt_ne lt (Option.some.inj z).symm) (by simp; omega)
    have b1 : bindT (.many [1, 2, 3]) (.dat (.tuple [.str a, .str b, .tuple c])) (wipeE [.fz (.dat v), .no, .no, .no] [1, 2, 3]) = some [.fz (.dat v), .fz (.dat (.str a)), .fz (.dat (.str b)), .fz (.dat (.tuple c))] := rfl
    unfold dcL
    rw [b1]
    dsimp only [fVar, List.getElem?_cons_succ, List.getElem?_cons_zero]
    rw [if_pos (by show (kOk false (.str a) && decide (acc.length < 16000000)) = true; rw [decide_eq_true (by omega)]; rfl), new, ih, List.append_assoc]
    rfl
theorem item_kinds_all (i24 : its.length ≤ 24) (hi : ∀ d ∈ its, ItemS d) (asc : Asc its) : F_item_kinds [.dat (.tuple [.tuple rs, .list its])] S = .ok (.dic (nameE its)) S := by
  have p1 : atI [PyData.tuple rs, .list its] 1 = some (.list its) := rfl
  have e := names_dc (S := S) (v := .tuple [.tuple rs, .list its]) (r := its) (acc := []) hi asc (fun _ m => absurd m List.not_mem_nil) (by simp; omega)
  show defF 4 1 B_item_kinds _ _ = _
  rw [defF_eq (by rfl)]
  have wl : fIt (fOpE idxV (fVarV 0) (fC (.int 1))) [.fz (.dat (.tuple [.tuple rs, .list its])), .no, .no, .no] S = .ok its S := by
    simp [fIt, fOpE, fVarV, idxV, p1, itV]
  have d : fDc false (fIt (fOpE idxV (fVarV 0) (fC (.int 1)))) (.many [1, 2, 3]) [1, 2, 3] (fun _ S => .ok true S) (fVar 1) (fVar 2) [.fz (.dat (.tuple [.tuple rs, .list its])), .no, .no, .no] S = .ok (.dic (nameE its)) S := by
    unfold fDc
    rw [wl, Out.bind_ok, e]
    rfl
  show (B_item_kinds [.fz (.dat (.tuple [.tuple rs, .list its])), .no, .no, .no] S).out = _
  have all : B_item_kinds [.fz (.dat (.tuple [.tuple rs, .list its])), .no, .no, .no] S = .rt (.dic (nameE its)) S := sRet_ok d
  rw [all]
  rfl
end
end K02

namespace K02
open PySem PySem.Spec PyProof.Rows L2 L2.HL
/-! ### the surplus -/
theorem sortSet_eq {ks : List Str} (h : ks.length ≤ 1000) : ∃ ls : List Str, sortSetV (.dat (.list (ks.map .str))) = some (.dat (.list (ls.map .str))) ∧ ls.map PyData.str = sortP ((dedupK (ks.map Sum.inr)).map keyD) := by
  obtain ⟨ls, e, _⟩ := sortSet_strs h
  refine ⟨ls, e, ?_⟩
  unfold sortSetV at e
  rw [setKs_strs h] at e
  dsimp only at e
  split at e
  · injection e with e
    injection e with e
    injection e with e
    exact e.symm
  · cases e
theorem sorted_nodup {ks ls : List Str} (h : ls.map PyData.str = sortP ((dedupK (ks.map Sum.inr)).map keyD)) : ls.Nodup := by
  obtain ⟨l2, e2⟩ := dedupK_strs ks
  have nd := dedupK_nodup (ks := ks.map Sum.inr)
  rw [e2] at nd h
  have n2 : l2.Nodup := (List.pairwise_map.mp nd).imp fun {a b} z y => z (by rw [y])
  have n3 : ((l2.map Sum.inr).map keyD).Nodup := by
    rw [List.map_map]
    exact List.pairwise_map.mpr (n2.imp fun {a b} z y => z (by injection y))
  have n4 : (ls.map PyData.str).Nodup := by
    rw [h]
    exact (List.mergeSort_perm _ _).nodup_iff.mpr n3
  exact (List.pairwise_map.mp n4).imp fun {a b} z y => z (by rw [y])
theorem sorted_same {ks ks' ls ls' : List Str} (h : ls.map PyData.str = sortP ((dedupK (ks.map Sum.inr)).map keyD)) (h' : ls'.map PyData.str = sortP ((dedupK (ks'.map Sum.inr)).map keyD)) (m : ∀ x, x ∈ ks ↔ x ∈ ks') : ls.map PyData.str = ls'.map PyData.str := by
  rw [h, h']
  refine sort_perm ((List.perm_ext_iff_of_nodup dedupK_nodup dedupK_nodup).mpr fun k => ?_)
  rw [dedupK_mem, dedupK_mem]
  simp only [List.mem_map]
  exact ⟨fun ⟨x, mx, e⟩ => ⟨x, (m x).mp mx, e⟩, fun ⟨x, mx, e⟩ => ⟨x, (m x).mpr mx, e⟩⟩
theorem not_in_take {ls : List Str} (nd : ls.Nodup) {j : Nat} {k : Str} (h : ls[j]? = some k) : k ∉ ls.take j := fun m => by
  obtain ⟨i, hi⟩ := List.getElem?_of_mem m
  have il : i < (ls.take j).length := (List.getElem?_eq_some_iff.mp hi).1
  rw [List.length_take] at il
  rw [List.getElem?_take_of_lt (by omega)] at hi
  obtain ⟨li, ei⟩ := List.getElem?_eq_some_iff.mp hi
  obtain ⟨lj, ej⟩ := List.getElem?_eq_some_iff.mp h
  exact List.pairwise_iff_getElem.mp nd i j li lj (by omega) (ei.trans ej.symm)
def Df (A P : List PyData) (k : Str) : Int := ((A.countP fun y => PyData.eqv y (.str k) : Nat) : Int) - ((P.countP fun y => PyData.eqv y (.str k) : Nat) : Int)
def entD (A P : List PyData) (k : Str) : PyData × PyData := (.str k, .int (Df A P k))
def surE (A P : List PyData) (ls : List Str) : List (PyData × PyData) := (ls.filter fun k => decide (Df A P k ≠ 0)).map (entD A P)
theorem surE_pos {A P : List PyData} {l : List Str} {k : Str} (z : Df A P k ≠ 0) : surE A P (l ++ [k]) = surE A P l ++ [entD A P k] := by
  unfold surE
  rw [List.filter_append, List.map_append, List.filter_cons_of_pos (p := fun k => decide (Df A P k ≠ 0)) (decide_eq_true z)]
  rfl
theorem surE_neg {A P : List PyData} {l : List Str} {k : Str} (z : ¬ Df A P k ≠ 0) : surE A P (l ++ [k]) = surE A P l := by
  unfold surE
  rw [List.filter_append, List.filter_cons_of_neg (p := fun k => decide (Df A P k ≠ 0)) (by rw [decide_eq_false z]; exact Bool.false_ne_true)]
  simp
theorem fresh_str {A P : List PyData} {l : List Str} {k : Str} (h : k ∉ l) : ∀ kv ∈ l.map (entD A P), PyData.eqv kv.1 (.str k) = false := fun kv m => by
  obtain ⟨x, mx, rfl⟩ := List.mem_map.mp m
  show PyData.eqv (.str x) (.str k) = false
  rw [PyData.eqv]
  exact beq_eq_false_iff_ne.mpr fun z => h (z ▸ mx)
section
variable {S : Src} {rs its : List PyData}
theorem count_eq {xs : List PyData} {k : Str} {u : EF} {ρ : En} {i : Nat} (hu : u ρ S = .ok (.dat (.list xs)) S) (hi : ρ[i]? = some (.fz (.dat (.str k)))) : fCount u (fCons (fVarV i) fNil) ρ S = .ok (.dat (.int ((xs.countP fun y => PyData.eqv y (.str k) : Nat) : Int))) S := by
  have v : fVarV i ρ S = .ok (.dat (.str k)) S := by unfold fVarV; rw [hi]
  unfold fCount
  rw [hu, Out.bind_ok]
  dsimp only
  rw [fCons_ok v fNil_eq, Out.bind_ok]
  show ofO (if min (PyData.depthAll xs) (PyData.str k).depth ≤ 100 then _ else _) S = _
  rw [if_pos (by rw [depth_str]; omega)]
  rfl
theorem all_kinds_all (kr : rs.all kindB = true) (r4 : rs.length ≤ 4) (i24 : its.length ≤ 24) (hi : ∀ d ∈ its, ItemS d) (asc : Asc its) : ∃ ls : List Str, F_all_kinds [.dat (.tuple [.tuple rs, .list its])] S = .ok (.dat (.list (ls.map .str))) S ∧ ls.map PyData.str = sortP ((dedupK ((txts rs ++ kindsItems its).map Sum.inr)).map keyD) := by
  have g := inv_good (rs := rs) hi asc
  have hr := kindsB_words kr
  have el := txts_len hr
  have kl := kinds_len g
  obtain ⟨ls, e1, e2⟩ := sortSet_eq (ks := txts rs ++ kindsItems its) (by rw [List.length_append]; omega)
  refine ⟨ls, ?_, e2⟩
  show defF 5 1 B_all_kinds _ S = _
  rw [defF_eq (by rfl)]
  have p0 : atI [PyData.tuple rs, .list its] 0 = some (.tuple rs) := rfl
  have p1 : atI [PyData.tuple rs, .list its] 1 = some (.list its) := rfl
  have first : sSet 1 (fAll listF2 (fCons (fOpE idxV (fVarV 0) (fC (.int 0))) fNil)) [.fz (.dat (.tuple [.tuple rs, .list its])), .no, .no, .no, .no] S = .nx [.fz (.dat (.tuple [.tuple rs, .list its])), .fz (.dat (.list ((txts rs).map .str))), .no, .no, .no] S := by
    simp [sSet, fAll, fCons, fOpE, fVarV, idxV, p0, listF2, listF, ← txts_of hr]
  obtain ⟨t2, t3, t4, loop⟩ := kinds_loop (S := S) (v := .dat (.tuple [.tuple rs, .list its])) (txts rs) .no .no .no g (by omega)
  have walk : fIt (fOpE idxV (fVarV 0) (fC (.int 1))) [.fz (.dat (.tuple [.tuple rs, .list its])), .fz (.dat (.list ((txts rs).map .str))), .no, .no, .no] S = .ok its S := by
    simp [fIt, fOpE, fVarV, idxV, p1, itV]
  have all := (sSeq_nx first).trans ((sSeq_nx ((sFor_eq walk).trans loop)).trans (sRet_ok (fU_ok (f := fVarV 1) (x := .dat (.list ((txts rs ++ kindsItems its).map .str))) rfl e1)))
  show (B_all_kinds [.fz (.dat (.tuple [.tuple rs, .list its])), .no, .no, .no, .no] S).out = _
  unfold B_all_kinds
  rw [all]
  rfl
theorem surplus_all (kr : rs.all kindB = true) (r1 : 1 ≤ rs.length) (r4 : rs.length ≤ 4) (i24 : its.length ≤ 24) (hi : ∀ d ∈ its, ItemS d) (asc : Asc its) {ls : List Str} (ll : ls.length ≤ 1000) (nd : ls.Nodup) (ek : ∀ S : Src, F_all_kinds [.dat (.tuple [.tuple rs, .list its])] S = .ok (.dat (.list (ls.map .str))) S) :
    F_surplus [.dat (.tuple [.tuple rs, .list its])] S = .ok (.dic (surE (rs ++ (kS2 its).map .str) ((kS1 its).map .str) ls)) S := by
  have e1 := slot_kinds_all (S := S) r4 i24 hi asc
  have e2 := item_kinds_all (S := S) (rs := rs) i24 hi asc
  have v1 : (allE rs its).map (·.2) = rs ++ (kS2 its).map .str := by
    unfold allE
    rw [List.map_append, slotE_vals, allE_vals kr hi]
  have v2 := nameE_vals hi
  generalize hA : rs ++ (kS2 its).map PyData.str = A at *
  generalize hP : (kS1 its).map PyData.str = P at *
  have ek := ek S
  generalize hv : PyData.tuple [.tuple rs, .list its] = v at *
  have t1 : sSet 1 (fU valsV (fCall F_slot_kinds (fCons (fVar 0) fNil))) [.fz (.dat v), .no, .no, .no, .no, .no] S = .nx [.fz (.dat v), .fz (.dat (.list A)), .no, .no, .no, .no] S :=
    sSet_ok (fU_ok (fCall_ok (xs := [.dat v]) rfl e1) (by show some (Vl.dat (.list ((allE rs its).map (·.2)))) = _; rw [v1]))
  have t2 : sSet 2 (fU valsV (fCall F_item_kinds (fCons (fVar 0) fNil))) [.fz (.dat v), .fz (.dat (.list A)), .no, .no, .no, .no] S = .nx [.fz (.dat v), .fz (.dat (.list A)), .fz (.dat (.list P)), .no, .no, .no] S :=
    sSet_ok (fU_ok (fCall_ok (xs := [.dat v]) rfl e2) (by show some (Vl.dat (.list ((nameE its).map (·.2)))) = _; rw [v2]))
  obtain ⟨k3, S', e3, rfl, rfl⟩ := dc_inv (kd := false) (t := .one 4) (vs := [4]) (c := fun _ S => .ok true S) (uk := fVar 4) (uv := fOp subV (fCount (fVarV 1) (fCons (fVarV 4) fNil)) (fCount (fVarV 2) (fCons (fVarV 4) fNil)))
    (ρ := [.fz (.dat v), .fz (.dat (.list A)), .fz (.dat (.list P)), .no, .no, .no]) (lf := fIt (fCall F_all_kinds (fCons (fVar 0) fNil))) (ds := ls.map .str) (S := S) (S1 := S)
    (fun j acc S' => S' = S ∧ acc = (ls.take j).map (entD A P)) (fIt_ok (fCall_ok (xs := [.dat v]) rfl ek) rfl) (fun j d acc S1 hd hj => by
      obtain ⟨rfl, rfl⟩ := hj
      rw [List.getElem?_map] at hd
      obtain ⟨k, hk, rfl⟩ := Option.map_eq_some_iff.mp hd
      have tk : ls.take (j + 1) = ls.take j ++ [k] := by rw [List.take_add_one, hk]; rfl
      have cA := count_eq (S := S1) (xs := A) (k := k) (u := fVarV 1) (ρ := [.fz (.dat v), .fz (.dat (.list A)), .fz (.dat (.list P)), .no, .fz (.dat (.str k)), .no]) (i := 4) rfl rfl
      have cP := count_eq (S := S1) (xs := P) (k := k) (u := fVarV 2) (ρ := [.fz (.dat v), .fz (.dat (.list A)), .fz (.dat (.list P)), .no, .fz (.dat (.str k)), .no]) (i := 4) rfl rfl
      refine ⟨[.fz (.dat v), .fz (.dat (.list A)), .fz (.dat (.list P)), .no, .fz (.dat (.str k)), .no], true, S1, rfl, rfl, (fun z => nomatch z), fun _ => ⟨.str k, .int (Df A P k), S1, S1, rfl, fOp_ok cA cP rfl, rfl, by rw [List.length_map, List.length_take]; omega, rfl, ?_⟩⟩
      rw [putP_new (fresh_str (not_in_take nd hk)), tk, List.map_append]
      rfl) ⟨rfl, rfl⟩
  rw [List.length_map, List.take_length] at e3
  have t3 := sSet_ok (i := 3) e3
  obtain ⟨k4, S'', e4, rfl, rfl⟩ := dc_inv (kd := false) (t := .many [4, 5]) (vs := [4, 5]) (c := fCp neD (fVarV 5) (fC (.int 0))) (uk := fVar 4) (uv := fVar 5)
    (ρ := [.fz (.dat v), .fz (.dat (.list A)), .fz (.dat (.list P)), .fz (.dic (ls.map (entD A P))), .no, .no]) (lf := fWalk itemsL (fVar 3)) (ds := pairsD (ls.map (entD A P))) (S := S') (S1 := S')
    (fun j acc S'' => S'' = S' ∧ acc = surE A P (ls.take j)) (by simp [fWalk, fVar, itemsL]) (fun j d acc S1 hd hj => by
      obtain ⟨rfl, rfl⟩ := hj
      unfold pairsD at hd
      rw [List.getElem?_map, List.getElem?_map] at hd
      obtain ⟨kv, hk, rfl⟩ := Option.map_eq_some_iff.mp hd
      obtain ⟨k, hk2, rfl⟩ := Option.map_eq_some_iff.mp hk
      have tk : ls.take (j + 1) = ls.take j ++ [k] := by rw [List.take_add_one, hk2]; rfl
      have nk := not_in_take nd hk2
      refine ⟨[.fz (.dat v), .fz (.dat (.list A)), .fz (.dat (.list P)), .fz (.dic (ls.map (entD A P))), .fz (.dat (.str k)), .fz (.dat (.int (Df A P k)))], decide (Df A P k ≠ 0), S1, rfl, ?_, fun z => ⟨rfl, ?_⟩, fun z => ⟨.str k, .int (Df A P k), S1, S1, rfl, rfl, rfl, ?_, rfl, ?_⟩⟩
      · refine fCp_ok (x := .dat (.int (Df A P k))) (y := .dat (.int 0)) rfl rfl ?_
        rw [neD_ii]
        by_cases z : Df A P k = 0
        · simp [z]
        · simp [z]
      · rw [tk, surE_neg (of_decide_eq_false z)]
      · unfold surE
        rw [List.length_map]
        have := List.length_filter_le (fun k => decide (Df A P k ≠ 0)) (ls.take j)
        rw [List.length_take] at this
        omega
      · have nw := putP_new (d := (entD A P k).2) (fresh_str (A := A) (P := P) (l := (ls.take j).filter fun k => decide (Df A P k ≠ 0)) (k := k) fun m => nk (List.mem_filter.mp m).1)
        rw [tk, surE_pos (of_decide_eq_true z)]
        exact nw) ⟨rfl, by simp [surE]⟩
  have len : (pairsD (ls.map (entD A P))).length = ls.length := by unfold pairsD; rw [List.length_map, List.length_map]
  rw [len, List.take_length] at e4
  show defF 6 1 B_surplus _ _ = _
  rw [defF_eq (by rfl)]
  have all : B_surplus [.fz (.dat v), .no, .no, .no, .no, .no] S'' = .rt (.dic (surE A P ls)) S'' := (sSeq_nx t1).trans ((sSeq_nx t2).trans ((sSeq_nx t3).trans (sRet_ok e4)))
  show (B_surplus [.fz (.dat v), .no, .no, .no, .no, .no] S'').out = _
  rw [all]
  rfl
end
end K02

namespace K02
open PySem PySem.Spec PyProof.Rows L2 L2.HL
section
variable {S : Src} {rs its : List PyData}
theorem int_ne (a b : Int) : (!decide (a = b)) = decide (a - b ≠ 0) := by
  by_cases z : a = b
  · subst z; simp
  · have : a - b ≠ 0 := by omega
    simp [z, this]
def kindI : PyData → PyData
  | .tuple [_, k, _] => k
  | _ => .none
theorem kinds_map : ∀ {its : List PyData}, (∀ d ∈ its, ItemS d) → its.map kindI = (kS1 its).map .str
  | [], _ => rfl
  | it :: r, hi => by
    obtain ⟨a, b, c, rfl, _⟩ := hi it List.mem_cons_self
    show PyData.str b :: r.map kindI = .str b :: (kS1 r).map .str
    rw [kinds_map fun d m => hi d (List.mem_cons_of_mem _ m)]
def B_tab : SF := (sIf (fCp neD (fCount (fVarV 2) (fCons (fVarV 4) fNil)) (fCount (fVarV 1) (fCons (fVarV 4) fNil))) (sPutD 3 (fVar 4) (fOp subV (fCount (fVarV 2) (fCons (fVarV 4) fNil)) (fCount (fVarV 1) (fCons (fVarV 4) fNil)))) .nx)
theorem surE_str {A P : List PyData} {l : List Str} : ∀ kv ∈ surE A P l, ∃ x, kv.1 = .str x := fun kv m => by
  obtain ⟨x, _, rfl⟩ := List.mem_map.mp m
  exact ⟨x, rfl⟩
theorem tbl_str {kvs : List (PyData × PyData)} {k : Str} (h : ∀ kv ∈ kvs, ∃ x, kv.1 = .str x) : tblOk kvs (.str k) = true := by
  match kvs, h with
  | [], _ => rfl
  | (a, d) :: r, h =>
    obtain ⟨x, e⟩ := h _ List.mem_cons_self
    have e : a = .str x := e
    subst e
    rfl
theorem sPutD_ok {n : Nat} {ui u : EF} {ρ : En} {S S1 S2 : Src} {x k : Vl} {kvs es : List (PyData × PyData)} (hu : u ρ S = .ok x S1) (h : ρ[n]? = some (.ow (.dic kvs))) (hk : ui ρ S1 = .ok k S2) (hp : putV kvs k x = some es) : sPutD n ui u ρ S = .nx (ρ.set n (.ow (.dic es))) S2 := by
  unfold sPutD
  rw [hu]
  dsimp only [SOut.letV]
  rw [h]
  dsimp only
  rw [hk]
  dsimp only
  rw [hp]
theorem law_surplus_all (kr : rs.all kindB = true) (r1 : 1 ≤ rs.length) (r4 : rs.length ≤ 4) (i24 : its.length ≤ 24) (hi : ∀ d ∈ its, ItemS d) (asc : Asc its) {ls : List Str} (ll : ls.length ≤ 1000) (nd : ls.Nodup) (es : ls.map PyData.str = sortP ((dedupK ((txts rs ++ kindsItems its).map Sum.inr)).map keyD)) :
    F__law_surplus [.dat (.tuple [.tuple rs, .list its])] S = .ok (.dic (surE (rs ++ (kS2 its).map .str) ((kS1 its).map .str) ls)) S := by
  have p1 : atI [PyData.tuple rs, .list its] 1 = some (.list its) := rfl
  have ea := fun S : Src => law_accepted_eq (S := S) (rs := rs) r4 i24 hi
  have km := kinds_map hi
  have l1 := kS1_len hi
  have l2 := kS2_len hi
  have er := txts_k kr
  have el := txts_len (kindsB_words kr)
  -- the kinds, sorted
  obtain ⟨ls', e5, es'⟩ := sortSet_eq (ks := kS1 its ++ (txts rs ++ kS2 its)) (by rw [List.length_append, List.length_append]; omega)
  have same : ls.map PyData.str = ls'.map PyData.str := sorted_same es es' fun x => by
    simp only [List.mem_append, kS_mem hi]
    constructor
    · rintro (h | h | h)
      · exact .inr (.inl h)
      · exact .inl h
      · exact .inr (.inr h)
    · rintro (h | h | h)
      · exact .inr (.inl h)
      · exact .inl h
      · exact .inr (.inr h)
  have eL : (kS1 its ++ (txts rs ++ kS2 its)).map PyData.str = (kS1 its).map .str ++ (rs ++ (kS2 its).map .str) := by
    rw [List.map_append, List.map_append, ← er]
  rw [eL, ← same] at e5
  have la : (rs ++ (kS2 its).map PyData.str).length ≤ 200 := by rw [List.length_append, List.length_map]; omega
  have lp : ((kS1 its).map PyData.str).length ≤ 200 := by rw [List.length_map]; omega
  generalize hA : rs ++ (kS2 its).map PyData.str = A at *
  generalize hP : (kS1 its).map PyData.str = P at *
  have ea := ea S
  generalize hv : PyData.tuple [.tuple rs, .list its] = v at *
  have walk : fIt (fOpE idxV (fVarV 0) (fC (.int 1))) [.fz (.dat v), .no, .no, .no, .no, .no, .no] S = .ok its S := by
    refine fIt_ok (fOpE_ok (S1 := S) (x := .dat v) (y := .dat (.int 1)) rfl rfl (r := .dat (.list its)) ?_) rfl
    rw [← hv]
    show (atI [PyData.tuple rs, .list its] 1).map Vl.dat = _
    rw [p1]
    rfl
  have t1 : sSet 1 (fLc (fIt (fOpE idxV (fVarV 0) (fC (.int 1)))) (.many [5, 4, 6]) [5, 4, 6] (fun _ S => .ok true S) (fVar 4)) [.fz (.dat v), .no, .no, .no, .no, .no, .no] S = .nx [.fz (.dat v), .fz (.dat (.list P)), .no, .no, .no, .no, .no] S := by
    refine sSet_ok ?_
    rw [← km]
    refine lc_map walk kindI (fun d m => ?_) (by omega)
    obtain ⟨a, b, c, rfl, _⟩ := hi d m
    exact ⟨[.fz (.dat v), .no, .no, .no, .fz (.dat (.str b)), .fz (.dat (.str a)), .fz (.dat (.tuple c))], rfl, rfl⟩
  have t2 : sSet 2 (fCall F__law_accepted (fCons (fVar 0) fNil)) [.fz (.dat v), .fz (.dat (.list P)), .no, .no, .no, .no, .no] S = .nx [.fz (.dat v), .fz (.dat (.list P)), .fz (.dat (.list A)), .no, .no, .no, .no] S := sSet_ok (fCall_ok (xs := [.dat v]) rfl ea)
  have t3 : sOwn 3 fDic0 [.fz (.dat v), .fz (.dat (.list P)), .fz (.dat (.list A)), .no, .no, .no, .no] S = .nx [.fz (.dat v), .fz (.dat (.list P)), .fz (.dat (.list A)), .ow (.dic []), .no, .no, .no] S := sOwn_ok rfl rfl
  have addd : addV (.dat (.list P)) (.dat (.list A)) = some (.dat (.list (P ++ A))) := addV_ll (by omega)
  obtain ⟨ρ', S', e4, rfl, q4, rfl⟩ := sFor_inv (t := .one 4) (f := B_tab) (lf := fIt (fU sortSetV (fOp addV (fVarV 1) (fVarV 2)))) (ds := ls.map .str)
    (ρ := [.fz (.dat v), .fz (.dat (.list P)), .fz (.dat (.list A)), .ow (.dic []), .no, .no, .no]) (S := S) (S1 := S)
    (fun j ρ S' => S' = S ∧ ∃ s4, ρ = [.fz (.dat v), .fz (.dat (.list P)), .fz (.dat (.list A)), .ow (.dic (surE A P (ls.take j))), s4, .no, .no])
    (fIt_ok (fU_ok (fOp_ok (S1 := S) (x := .dat (.list P)) (y := .dat (.list A)) rfl rfl addd) e5) rfl) (fun j d ρ S2 hd hj => by
      obtain ⟨rfl, s4, rfl⟩ := hj
      rw [List.getElem?_map] at hd
      obtain ⟨k, hk, rfl⟩ := Option.map_eq_some_iff.mp hd
      have tk : ls.take (j + 1) = ls.take j ++ [k] := by rw [List.take_add_one, hk]; rfl
      have nk := not_in_take nd hk
      have cA := count_eq (S := S2) (xs := A) (k := k) (u := fVarV 2) (ρ := [.fz (.dat v), .fz (.dat (.list P)), .fz (.dat (.list A)), .ow (.dic (surE A P (ls.take j))), .fz (.dat (.str k)), .no, .no]) (i := 4) rfl rfl
      have cP := count_eq (S := S2) (xs := P) (k := k) (u := fVarV 1) (ρ := [.fz (.dat v), .fz (.dat (.list P)), .fz (.dat (.list A)), .ow (.dic (surE A P (ls.take j))), .fz (.dat (.str k)), .no, .no]) (i := 4) rfl rfl
      have cond : fCp neD (fCount (fVarV 2) (fCons (fVarV 4) fNil)) (fCount (fVarV 1) (fCons (fVarV 4) fNil)) [.fz (.dat v), .fz (.dat (.list P)), .fz (.dat (.list A)), .ow (.dic (surE A P (ls.take j))), .fz (.dat (.str k)), .no, .no] S2 = .ok (decide (Df A P k ≠ 0)) S2 := by
        refine fCp_ok cA cP ?_
        rw [neD_ii]
        unfold Df
        rw [int_ne]
      by_cases z : Df A P k ≠ 0
      · have sub := fOp_ok (r := .dat (.int (Df A P k))) (F := subV) cA cP rfl
        have ln : (surE A P (ls.take j)).length < 16000000 := by
          unfold surE
          rw [List.length_map]
          have := List.length_filter_le (fun k => decide (Df A P k ≠ 0)) (ls.take j)
          rw [List.length_take] at this
          omega
        have new : putV (surE A P (ls.take j)) (.dat (.str k)) (.dat (.int (Df A P k))) = some (surE A P (ls.take (j + 1))) := by
          show (if (tblOk (surE A P (ls.take j)) (.str k) && decide ((surE A P (ls.take j)).length < 16000000)) = true then some (putP _ _ _) else none) = _
          rw [if_pos (by rw [tbl_str surE_str, decide_eq_true ln]; rfl)]
          have : putP (surE A P (ls.take j)) (.str k) (.int (Df A P k)) = surE A P (ls.take j) ++ [entD A P k] := putP_new (fresh_str fun m => nk (List.mem_filter.mp m).1)
          rw [this, tk, surE_pos z]
        exact ⟨_, _, S2, rfl, (sIf_yes (cond.trans (by rw [decide_eq_true z]))).trans (sPutD_ok sub rfl (k := .dat (.str k)) rfl new), rfl, .fz (.dat (.str k)), rfl⟩
      · refine ⟨_, _, S2, rfl, (sIf_no (cond.trans (by rw [decide_eq_false z]))), rfl, .fz (.dat (.str k)), ?_⟩
        rw [tk, surE_neg z]
        rfl) ⟨rfl, .no, by simp [surE]⟩
  rw [List.length_map, List.take_length] at e4
  show defF 7 1 B__law_surplus _ _ = _
  rw [defF_eq (by rfl)]
  have all : B__law_surplus [.fz (.dat v), .no, .no, .no, .no, .no, .no] S' = .rt (.dic (surE A P ls)) S' := (sSeq_nx t1).trans ((sSeq_nx t2).trans ((sSeq_nx t3).trans ((sSeq_nx e4).trans rfl)))
  show (B__law_surplus [.fz (.dat v), .no, .no, .no, .no, .no, .no] S').out = _
  rw [all]
  rfl
end
end K02

namespace K02
open PySem PySem.Spec PyProof.Rows L2 L2.HL
/-! ### the places are apart; each is found, others are not -/
def Dist (kvs : List (PyData × PyData)) : Prop := kvs.Pairwise fun a b => PyData.eqv a.1 b.1 = false
theorem slotE_dist {nm : Str} : ∀ {c : List PyData} {i : Nat}, Dist (slotE nm i c)
  | [], _ => List.Pairwise.nil
  | x :: c, i => by
    refine List.pairwise_cons.mpr ⟨fun kv m => ?_, slotE_dist⟩
    obtain ⟨j, e, h1, h2⟩ := slotE_keys kv m
    rw [e, key_eqv, decide_eq_false (show ¬ ((i : Int) = (j : Int)) by omega), Bool.and_false]
theorem itemsE_keys : ∀ {r : List PyData}, (∀ d ∈ r, ItemS d) → ∀ kv ∈ itemsE r, ∃ (a : Str) (j : Nat), kv.1 = .tuple [.str a, .int j] ∧ ∃ d ∈ r, head0 d = some a
  | [], _, kv, m => absurd m List.not_mem_nil
  | it :: r, hi, kv, m => by
    obtain ⟨a, b, c, rfl, _⟩ := hi it List.mem_cons_self
    have m' : kv ∈ slotE a 0 c ++ itemsE r := m
    rcases List.mem_append.mp m' with m' | m'
    · obtain ⟨j, e, _⟩ := slotE_keys kv m'
      exact ⟨a, j, e, _, List.mem_cons_self, rfl⟩
    · obtain ⟨a', j, e, d, md, hd⟩ := itemsE_keys (fun d m => hi d (List.mem_cons_of_mem _ m)) kv m'
      exact ⟨a', j, e, d, List.mem_cons_of_mem _ md, hd⟩
theorem itemsE_dist : ∀ {r : List PyData}, (∀ d ∈ r, ItemS d) → Asc r → Dist (itemsE r)
  | [], _, _ => List.Pairwise.nil
  | it :: r, hi, asc => by
    obtain ⟨a, b, c, rfl, _⟩ := hi it List.mem_cons_self
    have s2 := List.pairwise_cons.mp asc
    refine List.pairwise_append.mpr ⟨slotE_dist, itemsE_dist (fun d m => hi d (List.mem_cons_of_mem _ m)) s2.2, fun kv m kv' m' => ?_⟩
    obtain ⟨j, e, _⟩ := slotE_keys kv m
    obtain ⟨a', j', e', d, md, hd⟩ := itemsE_keys (fun d m => hi d (List.mem_cons_of_mem _ m)) kv' m'
    obtain ⟨a1, b1, e1, e2, lt⟩ := s2.1 d md
    cases e1
    rw [e2] at hd
    cases hd
    rw [e, e', key_eqv, decide_eq_false (lt_ne lt), Bool.false_and]
theorem name_ne {its : List PyData} (hi : ∀ d ∈ its, ItemS d) {d : PyData} {a : Str} (m : d ∈ its) (h : head0 d = some a) : a ≠ "" ∧ a ≠ "nobody" := by
  obtain ⟨a', b, c, rfl, wa, na, _⟩ := hi d m
  cases h
  exact ⟨fun z => by rw [z] at wa; exact absurd wa (by decide +kernel), na⟩
theorem allE_dist {rs its : List PyData} (hi : ∀ d ∈ its, ItemS d) (asc : Asc its) : Dist (allE rs its) := by
  refine List.pairwise_append.mpr ⟨slotE_dist, itemsE_dist hi asc, fun kv m kv' m' => ?_⟩
  obtain ⟨j, e, _⟩ := slotE_keys kv m
  obtain ⟨a', j', e', d, md, hd⟩ := itemsE_keys hi kv' m'
  rw [e, e', key_eqv, decide_eq_false (Ne.symm (name_ne hi md hd).1), Bool.false_and]
theorem lookD_at : ∀ {kvs : List (PyData × PyData)}, Dist kvs → ∀ kv ∈ kvs, PyData.eqv kv.1 kv.1 = true → lookD kvs kv.1 = some kv.2
  | [], _, kv, m, _ => absurd m List.not_mem_nil
  | x :: r, h, kv, m, rf => by
    have h2 := List.pairwise_cons.mp h
    unfold lookD
    rcases List.mem_cons.mp m with rfl | m
    · rw [List.find?_cons_of_pos (by exact rf)]
      rfl
    · rw [List.find?_cons_of_neg (by rw [h2.1 kv m]; exact Bool.false_ne_true)]
      exact lookD_at h2.2 kv m rf
theorem lookD_no {kvs : List (PyData × PyData)} {k : PyData} (h : ∀ kv ∈ kvs, PyData.eqv kv.1 k = false) : lookD kvs k = none := by
  unfold lookD
  rw [List.find?_eq_none.mpr fun kv m => by rw [h kv m]; exact Bool.false_ne_true]
  rfl
theorem allE_key {rs its : List PyData} (hi : ∀ d ∈ its, ItemS d) : ∀ kv ∈ allE rs its, TupK kv.1 := fun kv m => by
  rcases List.mem_append.mp m with m | m
  · obtain ⟨j, e, _⟩ := slotE_keys kv m
    exact ⟨_, _, e⟩
  · obtain ⟨a, j, e, _⟩ := itemsE_keys hi kv m
    exact ⟨_, _, e⟩
section
variable {S : Src} {rs its : List PyData}
/-- the program's answers at a well-made inventory -/
theorem check_ok (h : InvOk (.tuple [.tuple rs, .list its])) : ∀ S : Src, F_check_inventory [.dat (.tuple [.tuple rs, .list its])] S = .ok (.dat .none) S := fun S => by
  rw [check_eq (fit_of (inv_fit h)).ok, inv_none h]
  rfl
theorem inv_parts (h : InvOk (.tuple [.tuple rs, .list its])) : 1 ≤ rs.length ∧ rs.length ≤ 4 ∧ rs.all kindB = true ∧ 1 ≤ its.length ∧ its.length ≤ 24 ∧ (∀ d ∈ its, ItemS d) ∧ Asc its := by
  obtain ⟨rs', its', e, h⟩ := h
  cases e
  exact h
theorem list_slots_all (h : InvOk (.tuple [.tuple rs, .list its])) : F_list_slots [.dat (.tuple [.tuple rs, .list its])] S = .ok (.dat (.list ((allE rs its).map (·.1)))) S := by
  have c := check_ok h
  obtain ⟨r1, r4, kr, i1, i24, hi, asc⟩ := inv_parts h
  have e := slot_kinds_all (S := S) r4 i24 hi asc
  generalize PyData.tuple [.tuple rs, .list its] = v at *
  show defF 1 1 B_list_slots _ _ = _
  rw [defF_eq (by rfl)]
  show (B_list_slots [.fz (.dat v)] S).out = _
  unfold B_list_slots
  simp [sSeq, sDrop, sRet, SOut.letV, fCall, fCons, fAll, fVar, c, e, listF2]
theorem slot_kind_at (h : InvOk (.tuple [.tuple rs, .list its])) {kv : PyData × PyData} (m : kv ∈ allE rs its) : F_slot_kind [.dat (.tuple [.tuple rs, .list its]), .dat kv.1] S = .ok (.dat kv.2) S := by
  have c := check_ok h
  obtain ⟨r1, r4, kr, i1, i24, hi, asc⟩ := inv_parts h
  have e := fun S : Src => slot_kinds_all (S := S) r4 i24 hi asc
  obtain ⟨a, b, ek⟩ := allE_key hi kv m
  have rf : PyData.eqv kv.1 kv.1 = true := by rw [ek, key_eqv]; simp
  have lk := lookD_at (allE_dist hi asc) kv m rf
  have tb : tblOk (allE rs its) kv.1 = true := by rw [ek]; exact tbl_of (allE_key hi)
  generalize PyData.tuple [.tuple rs, .list its] = v at *
  generalize allE rs its = K at *
  have p0 : atI [PyData.str a, .int b] 0 = some (.str a) := rfl
  have p1 : atI [PyData.str a, .int b] 1 = some (.int b) := rfl
  have ie : ∀ S : Src, F_is_integer [.dat (.int b)] S = .ok (.dat (.bool true)) S := fun S => rfl
  have is : ∀ S : Src, F_is_slot [.dat v, .dat kv.1] S = .ok (.dat (.bool true)) S := fun S => by
    show defF 2 2 B_is_slot _ _ = _
    rw [defF_eq (by rfl)]
    show (B_is_slot [.fz (.dat v), .fz (.dat kv.1)] S).out = _
    rw [ek] at lk tb ⊢
    unfold B_is_slot
    simp [sSeq, sIf, sRet, SOut.letV, fOr, fNot, fAsB, fU, fVarV, fVar, isiV, tyD, asB, fCp, cpF, fAll, fCons, lenF, fOpE, idxV, p0, p1, fCall, ie, e, fB, bV, HL.inV, tb, lk]
  have cs : ∀ S : Src, F_check_slot [.dat v, .dat kv.1] S = .ok (.dat .none) S := fun S => by
    show defN 2 2 B_check_slot _ _ = _
    rw [defN_eq (by rfl)]
    show (B_check_slot [.fz (.dat v), .fz (.dat kv.1)] S).outN = _
    unfold B_check_slot
    simp [sIf, SOut.letV, fNot, fAsB, fCall, fCons, fVar, is, asB]
  show defF 2 2 B_slot_kind _ _ = _
  rw [defF_eq (by rfl)]
  show (B_slot_kind [.fz (.dat v), .fz (.dat kv.1)] S).out = _
  unfold B_slot_kind
  simp [sSeq, sDrop, sRet, SOut.letV, fCall, fCons, fVar, fVarV, c, cs, e, fOpE, idxV, tb, lk]
theorem slot_surplus_all (h : InvOk (.tuple [.tuple rs, .list its])) {ls : List Str} (ll : ls.length ≤ 1000) (nd : ls.Nodup) (ek : ∀ S : Src, F_all_kinds [.dat (.tuple [.tuple rs, .list its])] S = .ok (.dat (.list (ls.map .str))) S) : F_slot_surplus [.dat (.tuple [.tuple rs, .list its])] S = .ok (.dic (surE (rs ++ (kS2 its).map .str) ((kS1 its).map .str) ls)) S := by
  have c := check_ok h
  obtain ⟨r1, r4, kr, i1, i24, hi, asc⟩ := inv_parts h
  have e := surplus_all (S := S) kr r1 r4 i24 hi asc ll nd ek
  generalize PyData.tuple [.tuple rs, .list its] = v at *
  show defF 1 1 B_slot_surplus _ _ = _
  rw [defF_eq (by rfl)]
  show (B_slot_surplus [.fz (.dat v)] S).out = _
  unfold B_slot_surplus
  simp [sSeq, sDrop, sRet, SOut.letV, fCall, fCons, fVar, c, e]
/-- what is_slot says: no, so slot_kind raises -/
theorem raised_no (h : InvOk (.tuple [.tuple rs, .list its])) {p : PyData} (is : ∀ S : Src, F_is_slot [.dat (.tuple [.tuple rs, .list its]), .dat p] S = .ok (.dat (.bool false)) S) : F__law_raised [.dat (.tuple [.tuple rs, .list its]), .dat p] S = .ok (.dat (.list [.bool false, .bool true, .bool true])) S := by
  have c := check_ok h
  generalize PyData.tuple [.tuple rs, .list its] = v at *
  have cs : ∀ S : Src, F_check_slot [.dat v, .dat p] S = .exn "UnknownSlot" [] S := fun S => by
    show defN 2 2 B_check_slot _ _ = _
    rw [defN_eq (by rfl)]
    show (B_check_slot [.fz (.dat v), .fz (.dat p)] S).outN = _
    unfold B_check_slot
    simp [sIf, SOut.letV, fNot, fAsB, fCall, fCons, fVar, is, asB, sRaiseM]
  have sk : ∀ S : Src, F_slot_kind [.dat v, .dat p] S = .exn "UnknownSlot" [] S := fun S => by
    show defF 2 2 B_slot_kind _ _ = _
    rw [defF_eq (by rfl)]
    show (B_slot_kind [.fz (.dat v), .fz (.dat p)] S).out = _
    unfold B_slot_kind
    simp [sSeq, sDrop, SOut.letV, fCall, fCons, fVar, c, cs, SOut.seq]
  show defF 4 2 B__law_raised _ _ = _
  rw [defF_eq (by rfl)]
  show (B__law_raised [.fz (.dat v), .fz (.dat p), .no, .no] S).out = _
  have t1 : sSet 2 (fC .none) [.fz (.dat v), .fz (.dat p), .no, .no] S = .nx [.fz (.dat v), .fz (.dat p), .fz (.dat .none), .no] S := sSet_ok rfl
  have t2 : sTry [("InvalidInventory", true), ("UnknownSlot", true)] 3 2 (sDrop (fCall F_slot_kind (fCons (fVar 0) (fCons (fVar 1) fNil)))) [.fz (.dat v), .fz (.dat p), .fz (.dat .none), .no] S = .nx [.fz (.dat v), .fz (.dat p), .fz (.exc "UnknownSlot" []), .no] S := by
    have d : sDrop (fCall F_slot_kind (fCons (fVar 0) (fCons (fVar 1) fNil))) [.fz (.dat v), .fz (.dat p), .fz (.dat .none), .no] S = .exn "UnknownSlot" [] [.fz (.dat v), .fz (.dat p), .fz (.dat .none), .no] S := by
      simp [sDrop, SOut.letV, fCall, fCons, fVar, sk]
    unfold sTry
    rw [d]
    rfl
  unfold B__law_raised
  rw [(sSeq_nx t1).trans (sSeq_nx t2)]
  have j1 : isCV [("InvalidInventory", true), ("UnknownSlot", false)] (.exc "UnknownSlot" []) = some (.dat (.bool false)) := rfl
  have j2 : isCV [("InvalidInventory", false), ("UnknownSlot", true)] (.exc "UnknownSlot" []) = some (.dat (.bool true)) := rfl
  have j3 : isCV [("InvalidInventory", true), ("UnknownSlot", true)] (.exc "UnknownSlot" []) = some (.dat (.bool true)) := rfl
  simp [sRet, SOut.letV, fAll, fCons, fU, fVarV, j1, j2, j3, lstF, datsOf]
theorem raised_none {p : PyData} : F__law_raised [.dat .none, .dat p] S = .ok (.dat (.list [.bool true, .bool false, .bool true])) S := by
  have c : ∀ S : Src, F_check_inventory [.dat .none] S = .exn "InvalidInventory" [("reason", .d (errD .none))] S := fun S => by rw [check_eq (by rfl)]; rfl
  have sk : ∀ S : Src, F_slot_kind [.dat .none, .dat p] S = .exn "InvalidInventory" [("reason", .d (errD .none))] S := fun S => by
    show defF 2 2 B_slot_kind _ _ = _
    rw [defF_eq (by rfl)]
    show (B_slot_kind [.fz (.dat .none), .fz (.dat p)] S).out = _
    unfold B_slot_kind
    simp [sSeq, sDrop, SOut.letV, fCall, fCons, fVar, c, SOut.seq]
  show defF 4 2 B__law_raised _ _ = _
  rw [defF_eq (by rfl)]
  show (B__law_raised [.fz (.dat .none), .fz (.dat p), .no, .no] S).out = _
  have t1 : sSet 2 (fC .none) [.fz (.dat .none), .fz (.dat p), .no, .no] S = .nx [.fz (.dat .none), .fz (.dat p), .fz (.dat .none), .no] S := sSet_ok rfl
  have t2 : sTry [("InvalidInventory", true), ("UnknownSlot", true)] 3 2 (sDrop (fCall F_slot_kind (fCons (fVar 0) (fCons (fVar 1) fNil)))) [.fz (.dat .none), .fz (.dat p), .fz (.dat .none), .no] S = .nx [.fz (.dat .none), .fz (.dat p), .fz (.exc "InvalidInventory" [("reason", .d (errD .none))]), .no] S := by
    have d : sDrop (fCall F_slot_kind (fCons (fVar 0) (fCons (fVar 1) fNil))) [.fz (.dat .none), .fz (.dat p), .fz (.dat .none), .no] S = .exn "InvalidInventory" [("reason", .d (errD .none))] [.fz (.dat .none), .fz (.dat p), .fz (.dat .none), .no] S := by
      simp [sDrop, SOut.letV, fCall, fCons, fVar, sk]
    unfold sTry
    rw [d]
    rfl
  unfold B__law_raised
  rw [(sSeq_nx t1).trans (sSeq_nx t2)]
  simp [sRet, SOut.letV, fAll, fCons, fU, fVarV, isCV, lstF, datsOf]
end
end K02

namespace K02
open PySem PySem.Spec PyProof.Rows L2 L2.HL
/-! ### the texts of the places and of the surplus are short -/
structure Sh (n w : Nat) (d : PyData) : Prop where
  len : d.shown.length ≤ w
  show' : d.showable = true
  dict : d.hasDict = false
  dep : d.depth ≤ n
theorem int_sh {i : Int} (h : i.natAbs ≤ 1000) : Sh 0 1002 (.int i) := by
  refine ⟨?_, ?_, by rw [PyData.hasDict], Nat.le_refl _⟩
  · have := len_str_of_int i
    rw [PyData.shown]
    omega
  · rw [PyData.showable]
    refine decide_eq_true ?_
    have : i.natAbs.log2 ≤ i.natAbs := Nat.log2_le_self _
    omega
theorem word_sh {d : PyData} (h : wordD d = true) : Sh 0 100 d := by
  have f := fit_of (word_fit h 0)
  exact ⟨f.len, f.show', f.dict, f.dep⟩
theorem empty_sh : Sh 0 100 (.str "") := by
  have f := fit_of (show fitL 0 (.str "") = true by decide +kernel)
  exact ⟨f.len, f.show', f.dict, f.dep⟩
theorem pair_sh {a : Str} {i : Int} (ha : Sh 0 100 (.str a)) (hi : i.natAbs ≤ 1000) : Sh 1 2000 (.tuple [.str a, .int i]) := by
  have b := int_sh hi
  refine ⟨?_, ?_, ?_, ?_⟩
  · rw [PyData.shown, PyData.shownAll, PyData.shownAll, PyData.shownAll]
    have l := tupleText_le [(PyData.str a).shown, (PyData.int i).shown]
    have p : piled [(PyData.str a).shown, (PyData.int i).shown] = (PyData.str a).shown.length + 2 + ((PyData.int i).shown.length + 2) := by simp [piled]
    have x := ha.len
    have y := b.len
    omega
  · rw [PyData.showable, PyData.showableAll, PyData.showableAll, PyData.showableAll, ha.show', b.show']
    rfl
  · rw [PyData.hasDict, PyData.hasDictAll, PyData.hasDictAll, PyData.hasDictAll, ha.dict, b.dict]
    rfl
  · rw [PyData.depth, PyData.depthAll, PyData.depthAll, PyData.depthAll]
    have x := ha.dep
    have y := b.dep
    omega
theorem all_sh {n w : Nat} : ∀ {ds : List PyData}, (∀ d ∈ ds, Sh n w d) → PyData.showableAll ds = true ∧ PyData.hasDictAll ds = false ∧ PyData.depthAll ds ≤ n
  | [], _ => ⟨by rw [PyData.showableAll], by rw [PyData.hasDictAll], by rw [PyData.depthAll]; exact Nat.zero_le _⟩
  | d :: ds, h => by
    obtain ⟨a, b, c⟩ := all_sh (n := n) (w := w) (ds := ds) fun d m => h d (List.mem_cons_of_mem _ m)
    have f := h d List.mem_cons_self
    exact ⟨by rw [PyData.showableAll, f.show', a]; rfl, by rw [PyData.hasDictAll, f.dict, b]; rfl, by rw [PyData.depthAll]; exact Nat.max_le.mpr ⟨f.dep, c⟩⟩
theorem list_repr {ds : List PyData} (h : ∀ d ∈ ds, Sh 1 2000 d) (hl : ds.length ≤ 1000) : reprF2 [.dat (.list ds)] = some (.dat (.str (PyData.list ds).shown)) := by
  obtain ⟨a, b, c⟩ := all_sh h
  have len : (PyData.list ds).shown.length ≤ 16777216 := by
    rw [PyData.shown, shownAll_map]
    have p := piled_le (w := 2000) (ts := ds.map PyData.shown) fun t m => by
      obtain ⟨d, md, rfl⟩ := List.mem_map.mp m
      exact (h d md).len
    rw [List.length_map] at p
    have l := listText_le (ds.map PyData.shown)
    have : ds.length * (2000 + 2) ≤ 1000 * 2002 := Nat.mul_le_mul_right _ hl
    omega
  have ok : reprOk (.list ds) = true := by
    unfold reprOk
    rw [PyData.showable, a, PyData.hasDict, b, decide_eq_true len, decide_eq_true (show (PyData.list ds).depth ≤ 100 by rw [PyData.depth]; omega)]
    rfl
  show (if reprOk (.list ds) = true then _ else _) = _
  rw [if_pos ok]
theorem inv_repr {d : PyData} (h : fitL 5 d = true) : reprF2 [.dat d] = some (.dat (.str d.shown)) := fit_repr h
theorem dictText_le (ts : List Str) : (dictText ts).length ≤ 3 + piled ts := by
  unfold dictText
  rw [strLen_append, strLen_append]
  have e1 : ((("{" : String) : Str)).length = 1 := rfl
  have e2 : ((("}" : String) : Str)).length = 1 := rfl
  by_cases h : ts = []
  · subst h
    have : (Str.join ", " []).length = 0 := rfl
    omega
  · have := join_length_add ts h
    omega
theorem kv_sh : ∀ {kvs : List (PyData × PyData)}, (∀ kv ∈ kvs, Sh 0 100 kv.1 ∧ Sh 0 1002 kv.2) → PyData.showableKv kvs = true ∧ PyData.depthKv kvs ≤ 0 ∧ (∀ t ∈ PyData.shownKv kvs, t.length ≤ 1104) ∧ (PyData.shownKv kvs).length = kvs.length
  | [], _ => ⟨by rw [PyData.showableKv], by rw [PyData.depthKv]; exact Nat.le_refl _, by rw [PyData.shownKv]; exact fun _ m => absurd m List.not_mem_nil, by rw [PyData.shownKv]; rfl⟩
  | (k, v) :: r, h => by
    obtain ⟨a, b, c, e⟩ := kv_sh (kvs := r) fun kv m => h kv (List.mem_cons_of_mem _ m)
    obtain ⟨x, y⟩ := h _ List.mem_cons_self
    refine ⟨by rw [PyData.showableKv, x.show', y.show', a]; rfl, by rw [PyData.depthKv]; exact Nat.max_le.mpr ⟨Nat.max_le.mpr ⟨x.dep, y.dep⟩, b⟩, ?_, by rw [PyData.shownKv, List.length_cons, e]; rfl⟩
    rw [PyData.shownKv]
    intro t m
    rcases List.mem_cons.mp m with rfl | m
    · rw [strLen_append, strLen_append]
      have e2 : (((": " : String) : Str)).length = 2 := rfl
      have := x.len
      have := y.len
      dsimp only at *
      omega
    · exact c t m
theorem dict_repr {kvs : List (PyData × PyData)} (h : ∀ kv ∈ kvs, Sh 0 100 kv.1 ∧ Sh 0 1002 kv.2) (fl : ∀ kv ∈ kvs, flatD kv.1 = true ∧ flatD kv.2 = true) (hl : kvs.length ≤ 1000) : reprF2 [.dic kvs] = some (.dat (.str (PyData.dict kvs).shown)) := by
  obtain ⟨a, b, c, e⟩ := kv_sh h
  have len : (PyData.dict kvs).shown.length ≤ 16777216 := by
    rw [PyData.shown]
    have p := piled_le (w := 1104) c
    rw [e] at p
    have l := dictText_le (PyData.shownKv kvs)
    have : kvs.length * (1104 + 2) ≤ 1000 * 1106 := Nat.mul_le_mul_right _ hl
    omega
  have ok : reprDok kvs = true := by
    unfold reprDok
    rw [PyData.showable, a, decide_eq_true len, decide_eq_true (show (PyData.dict kvs).depth ≤ 100 by rw [PyData.depth]; omega), List.all_eq_true.mpr fun kv m => by rw [(fl kv m).1, (fl kv m).2]; rfl]
    rfl
  show (if reprDok kvs = true then _ else _) = _
  rw [if_pos ok]
theorem allE_sh {rs its : List PyData} (r4 : rs.length ≤ 4) (hi : ∀ d ∈ its, ItemS d) : ∀ k ∈ (allE rs its).map (·.1), Sh 1 2000 k := fun k m0 => by
  obtain ⟨kv, m, rfl⟩ := List.mem_map.mp m0
  rcases List.mem_append.mp m with m | m
  · obtain ⟨j, e, _, h2⟩ := slotE_keys kv m
    rw [e]
    exact pair_sh empty_sh (by omega)
  · have : ∀ {r : List PyData}, (∀ d ∈ r, ItemS d) → ∀ kv ∈ itemsE r, ∃ (a : Str) (j : Nat), kv.1 = .tuple [.str a, .int j] ∧ wordD (.str a) = true ∧ j ≤ 4 := fun {r} => by
      induction r with
      | nil => exact fun _ kv m => absurd m List.not_mem_nil
      | cons it r ih =>
        intro hr kv m
        obtain ⟨a, b, c, rfl, wa, _, _, _, c4⟩ := hr it List.mem_cons_self
        have m' : kv ∈ slotE a 0 c ++ itemsE r := m
        rcases List.mem_append.mp m' with m' | m'
        · obtain ⟨j, e, _, h2⟩ := slotE_keys kv m'
          exact ⟨a, j, e, wa, by omega⟩
        · exact ih (fun d m => hr d (List.mem_cons_of_mem _ m)) kv m'
    obtain ⟨a, j, e, wa, j4⟩ := this hi kv m
    rw [e]
    exact pair_sh (word_sh wa) (by omega)
theorem itemsE_len : ∀ {l : List PyData}, (∀ d ∈ l, ItemS d) → (itemsE l).length ≤ 4 * l.length
  | [], _ => Nat.zero_le _
  | y :: l, hl => by
    obtain ⟨a', b', c', rfl, _, _, _, _, c4'⟩ := hl y List.mem_cons_self
    have := itemsE_len fun d m => hl d (List.mem_cons_of_mem _ m)
    show (slotE a' 0 c' ++ itemsE l).length ≤ 4 * (l.length + 1)
    rw [List.length_append, slotE_len]
    omega
theorem allE_len {rs its : List PyData} (r4 : rs.length ≤ 4) (i24 : its.length ≤ 24) (hi : ∀ d ∈ its, ItemS d) : (allE rs its).length ≤ 100 := by
  have := itemsE_len hi
  unfold allE
  rw [List.length_append, slotE_len]
  omega
theorem ls_kind {rs its : List PyData} (kr : rs.all kindB = true) (hi : ∀ d ∈ its, ItemS d) {ls : List Str} (es : ls.map PyData.str = sortP ((dedupK ((txts rs ++ kindsItems its).map Sum.inr)).map keyD)) : ∀ x ∈ ls, x ∈ kindS6 := fun x m => by
  have m1 : PyData.str x ∈ ls.map PyData.str := List.mem_map.mpr ⟨x, m, rfl⟩
  rw [es] at m1
  obtain ⟨k, mk, e⟩ := List.mem_map.mp (sortP_mem _ m1)
  obtain ⟨y, my, rfl⟩ := List.mem_map.mp (dedupK_mem.mp mk)
  have : PyData.str y = .str x := e
  cases this
  rcases List.mem_append.mp my with my | my
  · exact txts_kind kr _ my
  · exact kindsItems_kind hi _ my
theorem sur_repr {rs its : List PyData} (kr : rs.all kindB = true) (r4 : rs.length ≤ 4) (i24 : its.length ≤ 24) (hi : ∀ d ∈ its, ItemS d) {ls : List Str} (ll : ls.length ≤ 1000) (es : ls.map PyData.str = sortP ((dedupK ((txts rs ++ kindsItems its).map Sum.inr)).map keyD)) :
    reprF2 [.dic (surE (rs ++ (kS2 its).map .str) ((kS1 its).map .str) ls)] = some (.dat (.str (PyData.dict (surE (rs ++ (kS2 its).map .str) ((kS1 its).map .str) ls)).shown)) := by
  have l1 := kS1_len hi
  have l2 := kS2_len hi
  have la : (rs ++ (kS2 its).map PyData.str).length ≤ 200 := by rw [List.length_append, List.length_map]; omega
  have lp : ((kS1 its).map PyData.str).length ≤ 200 := by rw [List.length_map]; omega
  have lk := ls_kind kr hi es
  generalize rs ++ (kS2 its).map PyData.str = A at *
  generalize (kS1 its).map PyData.str = P at *
  refine dict_repr (fun kv m => ?_) (fun kv m => ?_) ?_
  · obtain ⟨x, mx, rfl⟩ := List.mem_map.mp m
    have xm := lk x (List.mem_filter.mp mx).1
    refine ⟨word_sh (kindB_word (decide_eq_true xm)), int_sh ?_⟩
    have c1 := List.countP_le_length (p := fun y => PyData.eqv y (.str x)) (l := A)
    have c2 := List.countP_le_length (p := fun y => PyData.eqv y (.str x)) (l := P)
    unfold Df
    omega
  · obtain ⟨x, mx, rfl⟩ := List.mem_map.mp m
    exact ⟨rfl, rfl⟩
  · unfold surE
    rw [List.length_map]
    exact Nat.le_trans (List.length_filter_le _ _) ll
end K02

namespace K02
open PySem PySem.Spec PyProof.Rows L2 L2.HL
section
variable {S : Src} {rs r : List PyData} {a0 b0 : Str} {c0 : List PyData} {G : Int}
/-- the first item of the law's inventory -/
abbrev it0 (a0 b0 : Str) (c0 : List PyData) : PyData := .tuple [.str a0, .str b0, .tuple c0]
def inv1 (n m : Nat) (a : Str) : List PyData := [.tuple [.str "", .int n], .tuple [.str "", .int (-1)], .tuple [.str a, .int m], .tuple [.str a, .int (-1)], .tuple [.str "nobody", .int 0], .tuple [.str "", .bool true], .none]
def inv2 (G : Int) : List PyData := [.list [.str "", .int 0], .tuple [.str ""], .tuple [.str "", .int 0, .int 0], .tuple [.none, .int 0], .tuple [.int 0, .str ""], .tuple [.str "", .str "0"], .tuple [.str "", .int G]]
def inv4 (a : Str) : List PyData := [.tuple [.list [.str "a"], .int 0], .tuple [.str "", .list [.int 0]], .tuple [.str "", .bool false], .tuple [.str a, .bool false], .tuple [.str a, .bool true]]
theorem is_slot_key (h : InvOk (.tuple [.tuple rs, .list (it0 a0 b0 c0 :: r)])) {a : Str} {b : Int} (no : ∀ kv ∈ allE rs (it0 a0 b0 c0 :: r), PyData.eqv kv.1 (.tuple [.str a, .int b]) = false) :
    F_is_slot [.dat (.tuple [.tuple rs, .list (it0 a0 b0 c0 :: r)]), .dat (.tuple [.str a, .int b])] S = .ok (.dat (.bool false)) S := by
  obtain ⟨r1, r4, kr, i1, i24, hi, asc⟩ := inv_parts h
  have e := fun S : Src => slot_kinds_all (S := S) r4 i24 hi asc
  have lk := lookD_no no
  have tb : tblOk (allE rs (it0 a0 b0 c0 :: r)) (.tuple [.str a, .int b]) = true := tbl_of (allE_key hi)
  generalize PyData.tuple [.tuple rs, .list (it0 a0 b0 c0 :: r)] = v at *
  generalize allE rs (it0 a0 b0 c0 :: r) = K at *
  have p0 : atI [PyData.str a, .int b] 0 = some (.str a) := rfl
  have p1 : atI [PyData.str a, .int b] 1 = some (.int b) := rfl
  have ie : ∀ S : Src, F_is_integer [.dat (.int b)] S = .ok (.dat (.bool true)) S := fun S => rfl
  show defF 2 2 B_is_slot _ _ = _
  rw [defF_eq (by rfl)]
  show (B_is_slot [.fz (.dat v), .fz (.dat (.tuple [.str a, .int b]))] S).out = _
  unfold B_is_slot
  simp [sSeq, sIf, sRet, SOut.letV, fOr, fNot, fAsB, fU, fVarV, fVar, isiV, tyD, asB, fCp, cpF, fAll, fCons, lenF, fOpE, idxV, p0, p1, fCall, ie, e, fB, bV, HL.inV, tb, lk]
theorem tails (h : InvOk (.tuple [.tuple rs, .list (it0 a0 b0 c0 :: r)])) : ∀ kv ∈ allE rs (it0 a0 b0 c0 :: r), (∃ j : Nat, kv.1 = .tuple [.str "", .int j] ∧ j < rs.length) ∨ (∃ j : Nat, kv.1 = .tuple [.str a0, .int j] ∧ j < c0.length) ∨ ∃ (a : Str) (j : Nat), kv.1 = .tuple [.str a, .int j] ∧ a ≠ "" ∧ a ≠ "nobody" ∧ a ≠ a0 := fun kv m => by
  obtain ⟨r1, r4, kr, i1, i24, hi, asc⟩ := inv_parts h
  have m2 : kv ∈ slotE "" 0 rs ++ (slotE a0 0 c0 ++ itemsE r) := m
  rcases List.mem_append.mp m2 with m | m
  · obtain ⟨j, e, _, h2⟩ := slotE_keys kv m
    exact .inl ⟨j, e, by omega⟩
  · rcases List.mem_append.mp m with m | m
    · obtain ⟨j, e, _, h2⟩ := slotE_keys kv m
      exact .inr (.inl ⟨j, e, by omega⟩)
    · obtain ⟨a, j, e, d, md, hd⟩ := itemsE_keys (fun d m => hi d (List.mem_cons_of_mem _ m)) kv m
      have nn := name_ne hi (List.mem_cons_of_mem _ md) hd
      obtain ⟨a1, b1, e1, e2, lt⟩ := (List.pairwise_cons.mp asc).1 d md
      cases e1
      rw [e2] at hd
      cases hd
      exact .inr (.inr ⟨_, j, e, nn.1, nn.2, Ne.symm (lt_ne lt)⟩)
theorem key_no (h : InvOk (.tuple [.tuple rs, .list (it0 a0 b0 c0 :: r)])) {a : Str} {b : Int} (hx : (a = "" ∧ (b < 0 ∨ (rs.length : Int) ≤ b)) ∨ (a = a0 ∧ (b < 0 ∨ (c0.length : Int) ≤ b)) ∨ a = "nobody") : ∀ kv ∈ allE rs (it0 a0 b0 c0 :: r), PyData.eqv kv.1 (.tuple [.str a, .int b]) = false := fun kv m => by
  have n0 : a0 ≠ "" ∧ a0 ≠ "nobody" := by
    obtain ⟨r1, r4, kr, i1, i24, hi, asc⟩ := inv_parts h
    exact name_ne hi List.mem_cons_self (rfl : head0 (it0 a0 b0 c0) = some a0)
  have en : ("" : Str) ≠ "nobody" := by decide +kernel
  rcases tails h kv m with ⟨j, e, lt⟩ | ⟨j, e, lt⟩ | ⟨x, j, e, x1, x2, x3⟩
  · rw [e, key_eqv]
    rcases hx with ⟨rfl, hb⟩ | ⟨rfl, hb⟩ | rfl
    · rw [decide_eq_false (show ¬ ((j : Int) = b) by omega), Bool.and_false]
    · rw [decide_eq_false (Ne.symm n0.1), Bool.false_and]
    · rw [decide_eq_false en, Bool.false_and]
  · rw [e, key_eqv]
    rcases hx with ⟨rfl, hb⟩ | ⟨rfl, hb⟩ | rfl
    · rw [decide_eq_false n0.1, Bool.false_and]
    · rw [decide_eq_false (show ¬ ((j : Int) = b) by omega), Bool.and_false]
    · rw [decide_eq_false n0.2, Bool.false_and]
  · rw [e, key_eqv]
    rcases hx with ⟨rfl, hb⟩ | ⟨rfl, hb⟩ | rfl
    · rw [decide_eq_false x1, Bool.false_and]
    · rw [decide_eq_false x3, Bool.false_and]
    · rw [decide_eq_false x2, Bool.false_and]
theorem not_slots (h : InvOk (.tuple [.tuple rs, .list (it0 a0 b0 c0 :: r)])) (hG : 1000 ≤ G) : ∀ p ∈ inv1 rs.length c0.length a0 ++ inv2 G ++ [.tuple [.str a0, .int (0 - G)]] ++ inv4 a0, ∀ S : Src, F_is_slot [.dat (.tuple [.tuple rs, .list (it0 a0 b0 c0 :: r)]), .dat p] S = .ok (.dat (.bool false)) S := by
  have key : ∀ (a : Str) (b : Int), ((a = "" ∧ (b < 0 ∨ (rs.length : Int) ≤ b)) ∨ (a = a0 ∧ (b < 0 ∨ (c0.length : Int) ≤ b)) ∨ a = "nobody") → ∀ S : Src, F_is_slot [.dat (.tuple [.tuple rs, .list (it0 a0 b0 c0 :: r)]), .dat (.tuple [.str a, .int b])] S = .ok (.dat (.bool false)) S := fun a b hx S => is_slot_key h (key_no h hx)
  have r4 : rs.length ≤ 4 := (inv_parts h).2.1
  intro p m S
  unfold inv1 inv2 inv4 at m
  simp only [List.mem_append, List.mem_cons, List.not_mem_nil, or_false] at m
  rcases m with (((rfl | rfl | rfl | rfl | rfl | rfl | rfl) | (rfl | rfl | rfl | rfl | rfl | rfl | rfl)) | rfl) | (rfl | rfl | rfl | rfl | rfl)
  · exact key _ _ (.inl ⟨rfl, .inr (Int.le_refl _)⟩) S
  · exact key _ _ (.inl ⟨rfl, .inl (by omega)⟩) S
  · exact key _ _ (.inr (.inl ⟨rfl, .inr (Int.le_refl _)⟩)) S
  · exact key _ _ (.inr (.inl ⟨rfl, .inl (by omega)⟩)) S
  · exact key _ _ (.inr (.inr rfl)) S
  · rfl
  · rfl
  · rfl
  · rfl
  · rfl
  · rfl
  · rfl
  · rfl
  · exact key _ _ (.inl ⟨rfl, .inr (by omega)⟩) S
  · exact key _ _ (.inr (.inl ⟨rfl, .inl (by omega)⟩)) S
  · rfl
  · rfl
  · rfl
  · rfl
  · rfl
theorem spoil_ok {ks : List PyData} {kvs : List (PyData × PyData)} (l1 : ks.length ≤ 1000) (l2 : kvs.length ≤ 1000) (st : ∀ kv ∈ kvs, ∃ x, kv.1 = .str x) : F__law_spoil [.dat (.list ks), .dic kvs] S = .ok (.dat .none) S := by
  have a1 : ks.length < 16000000 := by omega
  have t1 : sDropM (fMut 0 appF (fCons (fC .none) fNil)) [.ow (.dat (.list ks)), .ow (.dic kvs)] S = .nx [.ow (.dat (.list (ks ++ [.none]))), .ow (.dic kvs)] S := by
    simp [sDropM, SOut.letV, fMut, fCons, appF, a1]
  have pv : putV kvs (.dat (.str "zz")) (.dat (.int 7)) = some (putP kvs (.str "zz") (.int 7)) := by
    show (if (tblOk kvs (.str "zz") && decide (kvs.length < 16000000)) = true then some (putP _ _ _) else none) = _
    rw [if_pos (by rw [tbl_str st, decide_eq_true (by omega)]; rfl)]
  have t2 : sPutD 1 (fC (.str "zz")) (fC (.int 7)) [.ow (.dat (.list (ks ++ [.none]))), .ow (.dic kvs)] S = .nx [.ow (.dat (.list (ks ++ [.none]))), .ow (.dic (putP kvs (.str "zz") (.int 7)))] S := sPutD_ok rfl rfl rfl pv
  show (match B__law_spoil [.ow (.dat (.list ks)), .ow (.dic kvs)] S with | .nx _ S' => Out.ok (Vl.dat .none) S' | _ => .stuck) = _
  have all : B__law_spoil [.ow (.dat (.list ks)), .ow (.dic kvs)] S = .nx [.ow (.dat (.list (ks ++ [.none]))), .ow (.dic (putP kvs (.str "zz") (.int 7)))] S := (sSeq_nx t1).trans t2
  rw [all]
end
end K02

namespace K02
open PySem PySem.Spec PyProof.Rows L2 L2.HL
section
variable {S : Src} {t : Nat} {G : Int} {s3 s4 s5 s7 s8 s9 s10 s11 s12 s13 : Sl}
abbrev el (G : Int) (s3 s4 s5 s6 s7 s8 s9 s10 s11 s12 s13 : Sl) : En := [.no, .fz .src, .fz (.dat (.int G)), s3, s4, s5, s6, s7, s8, s9, s10, s11, s12, s13]
def B_bad : SF := (sIf (fOr (fCp neD (fCall F__law_raised (fCons (fVar 6) (fCons (fVar 13) fNil))) (fAll lstF (fCons (fC (.bool false)) (fCons (fC (.bool true)) (fCons (fC (.bool true)) fNil))))) (fCp neD (fCall F__law_raised (fCons (fC .none) (fCons (fVar 13) fNil))) (fAll lstF (fCons (fC (.bool true)) (fCons (fC (.bool false)) (fCons (fC (.bool true)) fNil)))))) (sRet (fC (.bool false))) .nx)
def B_all : SF := (sSeq (sSet 7 (fAll reprF2 (fCons (fVarV 6) fNil)))
    (sSeq (sSet 8 (fCall F__law_slots (fCons (fVar 6) fNil)))
    (sSeq (sDropO F__law_spoil (fCall F_list_slots (fCons (fVar 6) fNil)) (fCall F_slot_surplus (fCons (fVar 6) fNil)))
    (sSeq (sIf (fOr (fCp neD (fAll reprF2 (fCons (fCall F_list_slots (fCons (fVar 6) fNil)) fNil)) (fAll reprF2 (fCons (fVarV 8) fNil))) (fCp neD (fAll reprF2 (fCons (fCall F_slot_surplus (fCons (fVar 6) fNil)) fNil)) (fAll reprF2 (fCons (fCall F__law_surplus (fCons (fVar 6) fNil)) fNil)))) (sRet (fC (.bool false))) .nx)
    (sSeq (sIf (fOr (fCp neD (fLc (fIt (fVar 8)) (.one 13) [13] (fun _ S => .ok true S) (fCall F_slot_kind (fCons (fVar 6) (fCons (fVar 13) fNil)))) (fCall F__law_accepted (fCons (fVar 6) fNil))) (fCp neD (fAll reprF2 (fCons (fVarV 6) fNil)) (fVarV 7))) (sRet (fC (.bool false))) .nx)
    (sSeq (sUnp (.many [9, 10, 11]) (fOpE idxV (fOpE idxV (fVarV 6) (fC (.int 1))) (fC (.int 0))))
    (sSeq (sOwn 12 (fAll lstF (fCons (fAll tupF (fCons (fC (.str "")) (fCons (fAll lenF (fCons (fOpE idxV (fVarV 6) (fC (.int 0))) fNil)) fNil))) (fCons (fAll tupF (fCons (fC (.str "")) (fCons (fU negV (fC (.int 1))) fNil))) (fCons (fAll tupF (fCons (fVar 9) (fCons (fAll lenF (fCons (fVarV 11) fNil)) fNil))) (fCons (fAll tupF (fCons (fVar 9) (fCons (fU negV (fC (.int 1))) fNil))) (fCons (fAll tupF (fCons (fC (.str "nobody")) (fCons (fC (.int 0)) fNil))) (fCons (fAll tupF (fCons (fC (.str "")) (fCons (fC (.bool true)) fNil))) (fCons (fC .none) fNil)))))))))
    (sSeq (sOwn 12 (fOp addV (fVarV 12) (fAll lstF (fCons (fAll lstF (fCons (fC (.str "")) (fCons (fC (.int 0)) fNil))) (fCons (fAll tupF (fCons (fC (.str "")) fNil)) (fCons (fAll tupF (fCons (fC (.str "")) (fCons (fC (.int 0)) (fCons (fC (.int 0)) fNil)))) (fCons (fAll tupF (fCons (fC .none) (fCons (fC (.int 0)) fNil))) (fCons (fAll tupF (fCons (fC (.int 0)) (fCons (fC (.str "")) fNil))) (fCons (fAll tupF (fCons (fC (.str "")) (fCons (fC (.str "0")) fNil))) (fCons (fAll tupF (fCons (fC (.str "")) (fCons (fVar 2) fNil))) fNil))))))))))
    (sSeq (sDropM (fMut 12 appF (fCons (fAll tupF (fCons (fVar 9) (fCons (fOp subV (fC (.int 0)) (fVarV 2)) fNil))) fNil)))
    (sSeq (sOwn 12 (fOp addV (fVarV 12) (fAll lstF (fCons (fAll tupF (fCons (fAll lstF (fCons (fC (.str "a")) fNil)) (fCons (fC (.int 0)) fNil))) (fCons (fAll tupF (fCons (fC (.str "")) (fCons (fAll lstF (fCons (fC (.int 0)) fNil)) fNil))) (fCons (fAll tupF (fCons (fC (.str "")) (fCons (fC (.bool false)) fNil))) (fCons (fAll tupF (fCons (fVar 9) (fCons (fC (.bool false)) fNil))) (fCons (fAll tupF (fCons (fVar 9) (fCons (fC (.bool true)) fNil))) fNil))))))))
    (sFz 12 (sFor (fIt (fVar 12)) (.one 13) B_bad))))))))))))
theorem sDropO_ok {F : Fm} {u v : EF} {ρ : En} {S S1 S2 S3 : Src} {x y z : Vl} (hu : u ρ S = .ok x S1) (hv : v ρ S1 = .ok y S2) (bx : x.box = true) (bY : y.box = true) (hF : F [x, y] S2 = .ok z S3) : sDropO F u v ρ S = .nx ρ S3 := by
  unfold sDropO
  rw [hu]
  dsimp only [SOut.letV]
  rw [hv]
  dsimp only [SOut.letV]
  rw [if_pos ⟨bx, bY⟩, hF]
theorem strs_self : ∀ xs : List Str, PyData.eqvAll (xs.map .str) (xs.map .str) = true
  | [] => by rw [List.map_nil, PyData.eqvAll]
  | x :: xs => by
    rw [List.map_cons, PyData.eqvAll, strs_self xs, PyData.eqv]
    simp
theorem ne_strs (xs : List Str) : neD (.dat (.list (xs.map .str))) (.dat (.list (xs.map .str))) = some false := by
  rw [neD_small (by rw [PyData.depth, depth_strs]; omega), PyData.eqv, strs_self]
  rfl
theorem ne_str (x : Str) : neD (.dat (.str x)) (.dat (.str x)) = some false := by
  rw [neD_ss]
  simp
theorem bads_eq {v : PyData} {ps : List PyData} (hp : ∀ p ∈ ps, ∀ S : Src, F__law_raised [.dat v, .dat p] S = .ok (.dat (.list [.bool false, .bool true, .bool true])) S) :
    ∃ s13', sFor (fIt (fVar 12)) (.one 13) B_bad (el G s3 s4 s5 (.fz (.dat v)) s7 s8 s9 s10 s11 (.fz (.dat (.list ps))) s13) S = .nx (el G s3 s4 s5 (.fz (.dat v)) s7 s8 s9 s10 s11 (.fz (.dat (.list ps))) s13') S := by
  obtain ⟨ρ', S', e, rfl, t13, rfl⟩ := sFor_inv (t := .one 13) (f := B_bad) (lf := fIt (fVar 12)) (ds := ps) (ρ := el G s3 s4 s5 (.fz (.dat v)) s7 s8 s9 s10 s11 (.fz (.dat (.list ps))) s13) (S := S) (S1 := S)
    (fun j ρ S' => S' = S ∧ ∃ s13, ρ = el G s3 s4 s5 (.fz (.dat v)) s7 s8 s9 s10 s11 (.fz (.dat (.list ps))) s13) (fIt_ok (x := .dat (.list ps)) rfl rfl) (fun j p ρ S2 hd hj => by
      obtain ⟨rfl, s13, rfl⟩ := hj
      have r1 := hp p (List.mem_of_getElem? hd)
      have r2 := fun S : Src => raised_none (S := S) (p := p)
      have n1 : neD (.dat (.list [.bool false, .bool true, .bool true])) (.dat (.list [.bool false, .bool true, .bool true])) = some false := by decide +kernel
      have n2 : neD (.dat (.list [.bool true, .bool false, .bool true])) (.dat (.list [.bool true, .bool false, .bool true])) = some false := by decide +kernel
      have l1 : ∀ b c d : Bool, fAll lstF (fCons (fC (.bool b)) (fCons (fC (.bool c)) (fCons (fC (.bool d)) fNil))) (el G s3 s4 s5 (.fz (.dat v)) s7 s8 s9 s10 s11 (.fz (.dat (.list ps))) (.fz (.dat p))) S2 = .ok (.dat (.list [.bool b, .bool c, .bool d])) S2 := fun b c d => by
        simp [fAll, fCons, lstF, datsOf]
      have c1 := fCp_ok (F := neD) (fCall_ok (F := F__law_raised) (g := fCons (fVar 6) (fCons (fVar 13) fNil)) (ρ := el G s3 s4 s5 (.fz (.dat v)) s7 s8 s9 s10 s11 (.fz (.dat (.list ps))) (.fz (.dat p))) (S := S2) (xs := [.dat v, .dat p]) rfl (r1 S2)) (l1 false true true) n1
      have c2 := fCp_ok (F := neD) (fCall_ok (F := F__law_raised) (g := fCons (fC .none) (fCons (fVar 13) fNil)) (ρ := el G s3 s4 s5 (.fz (.dat v)) s7 s8 s9 s10 s11 (.fz (.dat (.list ps))) (.fz (.dat p))) (S := S2) (xs := [.dat .none, .dat p]) rfl (r2 S2)) (l1 true false true) n2
      exact ⟨el G s3 s4 s5 (.fz (.dat v)) s7 s8 s9 s10 s11 (.fz (.dat (.list ps))) (.fz (.dat p)), _, S2, rfl, sIf_no (fOr_no c1 c2), rfl, _, rfl⟩) ⟨rfl, _, rfl⟩
  exact ⟨t13, e⟩
theorem one_all {v : PyData} (h : InvOk v) (hG : 1000 ≤ G) : ∃ s7' s8' s9' s10' s11' s12' s13', B_all (el G s3 s4 s5 (.fz (.dat v)) s7 s8 s9 s10 s11 s12 s13) S = .nx (el G s3 s4 s5 (.fz (.dat v)) s7' s8' s9' s10' s11' s12' s13') S := by
  have hv := h
  obtain ⟨rs, its, rfl, r1, r4, kr, i1, i24, hi, asc⟩ := hv
  obtain ⟨a0, b0, c0, r, rfl, q0⟩ : ∃ a0 b0 c0 r, its = it0 a0 b0 c0 :: r ∧ c0.length ≤ 4 := by
    cases its with
    | nil => simp at i1
    | cons x r =>
      obtain ⟨a, b, c, rfl, _, _, _, _, c4⟩ := hi x List.mem_cons_self
      exact ⟨a, b, c, r, rfl, c4⟩
  have fv := inv_fit h
  have rp := inv_repr fv
  have ns := not_slots h hG
  have rno := fun p (m : p ∈ inv1 rs.length c0.length a0 ++ inv2 G ++ [.tuple [.str a0, .int (0 - G)]] ++ inv4 a0) => fun S : Src => raised_no (S := S) h (ns p m)
  -- the kinds, sorted
  obtain ⟨ls, _, es⟩ := all_kinds_all (S := S) kr r4 i24 hi asc
  have nd := sorted_nodup es
  have ek : ∀ S : Src, F_all_kinds [.dat (.tuple [.tuple rs, .list (it0 a0 b0 c0 :: r)])] S = .ok (.dat (.list (ls.map .str))) S := fun S => by
    obtain ⟨ls2, e2, es2⟩ := all_kinds_all (S := S) kr r4 i24 hi asc
    rw [e2, es2, es]
  have lk := ls_kind kr hi es
  have ll : ls.length ≤ 1000 := Nat.le_trans (nodup_sub (m := kindS6) nd lk) (by decide)
  have eS := fun S : Src => law_slots_eq (S := S) (rs := rs) r4 i24 hi
  have eL := fun S : Src => list_slots_all (S := S) h
  have eU := fun S : Src => slot_surplus_all (S := S) h ll nd ek
  have eW := fun S : Src => law_surplus_all (S := S) kr r1 r4 i24 hi asc ll nd es
  have eA := fun S : Src => law_accepted_eq (S := S) (rs := rs) r4 i24 hi
  have len := allE_len r4 i24 hi
  have lenK : ((allE rs (it0 a0 b0 c0 :: r)).map (·.1)).length ≤ 1000 := by rw [List.length_map]; omega
  have rpK := list_repr (allE_sh (rs := rs) r4 hi) lenK
  have rpU := sur_repr kr r4 i24 hi ll es
  have vals : (allE rs (it0 a0 b0 c0 :: r)).map (·.2) = rs ++ (kS2 (it0 a0 b0 c0 :: r)).map .str := by
    unfold allE
    rw [List.map_append, slotE_vals, allE_vals kr hi]
  have valS : rs ++ (kS2 (it0 a0 b0 c0 :: r)).map .str = (txts rs ++ kS2 (it0 a0 b0 c0 :: r)).map .str := by rw [List.map_append, ← txts_k kr]
  have sk := fun (kv : PyData × PyData) (m : kv ∈ allE rs (it0 a0 b0 c0 :: r)) => fun S : Src => slot_kind_at (S := S) h m
  have sp := spoil_ok (S := S) (ks := (allE rs (it0 a0 b0 c0 :: r)).map (·.1)) (kvs := surE (rs ++ (kS2 (it0 a0 b0 c0 :: r)).map .str) ((kS1 (it0 a0 b0 c0 :: r)).map .str) ls) lenK (by unfold surE; rw [List.length_map]; exact Nat.le_trans (List.length_filter_le _ _) ll) surE_str
  have n11 : atI [PyData.tuple rs, .list (it0 a0 b0 c0 :: r)] 1 = some (.list (it0 a0 b0 c0 :: r)) := rfl
  have n00 : atI [PyData.tuple rs, .list (it0 a0 b0 c0 :: r)] 0 = some (.tuple rs) := rfl
  have n10 : atI (it0 a0 b0 c0 :: r) 0 = some (it0 a0 b0 c0) := atI_nat (j := 0) rfl
  generalize hx : PyData.tuple [.tuple rs, .list (it0 a0 b0 c0 :: r)] = v at *
  generalize surE (rs ++ (kS2 (it0 a0 b0 c0 :: r)).map .str) ((kS1 (it0 a0 b0 c0 :: r)).map .str) ls = U at *
  generalize hK : (allE rs (it0 a0 b0 c0 :: r)).map (·.1) = K at *
  have t7 : sSet 7 (fAll reprF2 (fCons (fVarV 6) fNil)) (el G s3 s4 s5 (.fz (.dat v)) s7 s8 s9 s10 s11 s12 s13) S = .nx (el G s3 s4 s5 (.fz (.dat v)) (.fz (.dat (.str v.shown))) s8 s9 s10 s11 s12 s13) S := sSet_ok (fAll_ok (xs := [.dat v]) rfl rp)
  have t8 : sSet 8 (fCall F__law_slots (fCons (fVar 6) fNil)) (el G s3 s4 s5 (.fz (.dat v)) (.fz (.dat (.str v.shown))) s8 s9 s10 s11 s12 s13) S = .nx (el G s3 s4 s5 (.fz (.dat v)) (.fz (.dat (.str v.shown))) (.fz (.dat (.list K))) s9 s10 s11 s12 s13) S := sSet_ok (fCall_ok (xs := [.dat v]) rfl (eS S))
  have gL : ∀ S' : Src, fCall F_list_slots (fCons (fVar 6) fNil) (el G s3 s4 s5 (.fz (.dat v)) (.fz (.dat (.str v.shown))) (.fz (.dat (.list K))) s9 s10 s11 s12 s13) S' = .ok (.dat (.list K)) S' := fun S' => fCall_ok (xs := [.dat v]) rfl (eL S')
  have gU : ∀ S' : Src, fCall F_slot_surplus (fCons (fVar 6) fNil) (el G s3 s4 s5 (.fz (.dat v)) (.fz (.dat (.str v.shown))) (.fz (.dat (.list K))) s9 s10 s11 s12 s13) S' = .ok (.dic U) S' := fun S' => fCall_ok (xs := [.dat v]) rfl (eU S')
  have gW : ∀ S' : Src, fCall F__law_surplus (fCons (fVar 6) fNil) (el G s3 s4 s5 (.fz (.dat v)) (.fz (.dat (.str v.shown))) (.fz (.dat (.list K))) s9 s10 s11 s12 s13) S' = .ok (.dic U) S' := fun S' => fCall_ok (xs := [.dat v]) rfl (eW S')
  have t9 := sDropO_ok (F := F__law_spoil) (gL S) (gU S) rfl rfl sp
  have c1 := fCp_ok (F := neD) (fAll_ok (fCons_ok (gL S) fNil_eq) rpK) (fAll_ok (g := fCons (fVarV 8) fNil) (ρ := el G s3 s4 s5 (.fz (.dat v)) (.fz (.dat (.str v.shown))) (.fz (.dat (.list K))) s9 s10 s11 s12 s13) (S := S) (xs := [.dat (.list K)]) rfl rpK) (ne_str _)
  have c2 := fCp_ok (F := neD) (fAll_ok (fCons_ok (gU S) fNil_eq) rpU) (fAll_ok (fCons_ok (gW S) fNil_eq) rpU) (ne_str _)
  have t10 := sIf_no (f := sRet (fC (.bool false))) (g := .nx) (fOr_no c1 c2)
  -- what each place accepts
  have lc : fLc (fIt (fVar 8)) (.one 13) [13] (fun _ S => .ok true S) (fCall F_slot_kind (fCons (fVar 6) (fCons (fVar 13) fNil))) (el G s3 s4 s5 (.fz (.dat v)) (.fz (.dat (.str v.shown))) (.fz (.dat (.list K))) s9 s10 s11 s12 s13) S = .ok (.dat (.list ((allE rs (it0 a0 b0 c0 :: r)).map (·.2)))) S := by
    obtain ⟨ys, S', e, rfl, rfl⟩ := lc_inv (t := .one 13) (vs := [13]) (c := fun _ S => .ok true S) (u := fCall F_slot_kind (fCons (fVar 6) (fCons (fVar 13) fNil))) (lf := fIt (fVar 8)) (ds := K) (ρ := el G s3 s4 s5 (.fz (.dat v)) (.fz (.dat (.str v.shown))) (.fz (.dat (.list K))) s9 s10 s11 s12 s13) (S := S) (S1 := S)
      (fun j acc S' => S' = S ∧ acc = ((allE rs (it0 a0 b0 c0 :: r)).take j).map (·.2)) (fIt_ok (x := .dat (.list K)) rfl rfl) (fun j d acc S1 hd hj => by
        obtain ⟨rfl, rfl⟩ := hj
        rw [← hK, List.getElem?_map] at hd
        obtain ⟨kv, hkv, rfl⟩ := Option.map_eq_some_iff.mp hd
        have tk : (allE rs (it0 a0 b0 c0 :: r)).take (j + 1) = (allE rs (it0 a0 b0 c0 :: r)).take j ++ [kv] := by rw [List.take_add_one, hkv]; rfl
        exact ⟨el G s3 s4 s5 (.fz (.dat v)) (.fz (.dat (.str v.shown))) (.fz (.dat (.list K))) s9 s10 s11 s12 (.fz (.dat kv.1)), true, S1, rfl, rfl, (fun z => nomatch z), fun _ => ⟨kv.2, S1, fCall_ok (xs := [.dat v, .dat kv.1]) rfl (sk kv (List.mem_of_getElem? hkv) S1), rfl, by rw [tk, List.map_append]; rfl⟩⟩) (by omega) ⟨rfl, rfl⟩
    rw [← hK, List.length_map, List.take_length] at e
    rw [← hK]
    exact e
  rw [vals, valS] at lc
  have gA : fCall F__law_accepted (fCons (fVar 6) fNil) (el G s3 s4 s5 (.fz (.dat v)) (.fz (.dat (.str v.shown))) (.fz (.dat (.list K))) s9 s10 s11 s12 s13) S = .ok (.dat (.list ((txts rs ++ kS2 (it0 a0 b0 c0 :: r)).map .str))) S := by
    rw [← valS]
    exact fCall_ok (xs := [.dat v]) rfl (eA S)
  have c3 := fCp_ok (F := neD) lc gA (ne_strs _)
  have c4 := fCp_ok (F := neD) (fAll_ok (g := fCons (fVarV 6) fNil) (ρ := el G s3 s4 s5 (.fz (.dat v)) (.fz (.dat (.str v.shown))) (.fz (.dat (.list K))) s9 s10 s11 s12 s13) (S := S) (xs := [.dat v]) rfl rp) (g := fVarV 7) (y := .dat (.str v.shown)) rfl (ne_str _)
  have t11 := sIf_no (f := sRet (fC (.bool false))) (g := .nx) (fOr_no c3 c4)
  have t12 : sUnp (.many [9, 10, 11]) (fOpE idxV (fOpE idxV (fVarV 6) (fC (.int 1))) (fC (.int 0))) (el G s3 s4 s5 (.fz (.dat v)) (.fz (.dat (.str v.shown))) (.fz (.dat (.list K))) s9 s10 s11 s12 s13) S = .nx (el G s3 s4 s5 (.fz (.dat v)) (.fz (.dat (.str v.shown))) (.fz (.dat (.list K))) (.fz (.dat (.str a0))) (.fz (.dat (.str b0))) (.fz (.dat (.tuple c0))) s12 s13) S := by
    rw [← hx]
    simp [el, sUnp, SOut.letV, fOpE, fVarV, idxV, n11, n10, bindT, setMany]
  have t13 : sOwn 12 (fAll lstF (fCons (fAll tupF (fCons (fC (.str "")) (fCons (fAll lenF (fCons (fOpE idxV (fVarV 6) (fC (.int 0))) fNil)) fNil))) (fCons (fAll tupF (fCons (fC (.str "")) (fCons (fU negV (fC (.int 1))) fNil))) (fCons (fAll tupF (fCons (fVar 9) (fCons (fAll lenF (fCons (fVarV 11) fNil)) fNil))) (fCons (fAll tupF (fCons (fVar 9) (fCons (fU negV (fC (.int 1))) fNil))) (fCons (fAll tupF (fCons (fC (.str "nobody")) (fCons (fC (.int 0)) fNil))) (fCons (fAll tupF (fCons (fC (.str "")) (fCons (fC (.bool true)) fNil))) (fCons (fC .none) fNil)))))))) (el G s3 s4 s5 (.fz (.dat v)) (.fz (.dat (.str v.shown))) (.fz (.dat (.list K))) (.fz (.dat (.str a0))) (.fz (.dat (.str b0))) (.fz (.dat (.tuple c0))) s12 s13) S = .nx (el G s3 s4 s5 (.fz (.dat v)) (.fz (.dat (.str v.shown))) (.fz (.dat (.list K))) (.fz (.dat (.str a0))) (.fz (.dat (.str b0))) (.fz (.dat (.tuple c0))) (.ow (.dat (.list (inv1 rs.length c0.length a0)))) s13) S := by
    refine sOwn_ok (x := .dat (.list (inv1 rs.length c0.length a0))) ?_ rfl
    rw [← hx]
    simp [el, fAll, fCons, fVar, fVarV, fOpE, idxV, n00, lenF, fU, negV, tupF, lstF, datsOf, inv1]
  have a1 : addV (.dat (.list (inv1 rs.length c0.length a0))) (.dat (.list (inv2 G))) = some (.dat (.list (inv1 rs.length c0.length a0 ++ inv2 G))) := addV_ll (by unfold inv1 inv2; simp)
  have a2 : addV (.dat (.list (inv1 rs.length c0.length a0 ++ inv2 G ++ [.tuple [.str a0, .int (0 - G)]]))) (.dat (.list (inv4 a0))) = some (.dat (.list (inv1 rs.length c0.length a0 ++ inv2 G ++ [.tuple [.str a0, .int (0 - G)]] ++ inv4 a0))) := addV_ll (by unfold inv1 inv2 inv4; simp)
  have l12 : (inv1 rs.length c0.length a0 ++ inv2 G).length < 16000000 := by unfold inv1 inv2; simp
  have h2 : ∀ s12 : Sl, fAll lstF (fCons (fAll lstF (fCons (fC (.str "")) (fCons (fC (.int 0)) fNil))) (fCons (fAll tupF (fCons (fC (.str "")) fNil)) (fCons (fAll tupF (fCons (fC (.str "")) (fCons (fC (.int 0)) (fCons (fC (.int 0)) fNil)))) (fCons (fAll tupF (fCons (fC .none) (fCons (fC (.int 0)) fNil))) (fCons (fAll tupF (fCons (fC (.int 0)) (fCons (fC (.str "")) fNil))) (fCons (fAll tupF (fCons (fC (.str "")) (fCons (fC (.str "0")) fNil))) (fCons (fAll tupF (fCons (fC (.str "")) (fCons (fVar 2) fNil))) fNil))))))) (el G s3 s4 s5 (.fz (.dat v)) (.fz (.dat (.str v.shown))) (.fz (.dat (.list K))) (.fz (.dat (.str a0))) (.fz (.dat (.str b0))) (.fz (.dat (.tuple c0))) s12 s13) S = .ok (.dat (.list (inv2 G))) S := fun s12 => by
    simp [el, fAll, fCons, fVar, tupF, lstF, datsOf, inv2]
  have h4 : ∀ s12 : Sl, fAll lstF (fCons (fAll tupF (fCons (fAll lstF (fCons (fC (.str "a")) fNil)) (fCons (fC (.int 0)) fNil))) (fCons (fAll tupF (fCons (fC (.str "")) (fCons (fAll lstF (fCons (fC (.int 0)) fNil)) fNil))) (fCons (fAll tupF (fCons (fC (.str "")) (fCons (fC (.bool false)) fNil))) (fCons (fAll tupF (fCons (fVar 9) (fCons (fC (.bool false)) fNil))) (fCons (fAll tupF (fCons (fVar 9) (fCons (fC (.bool true)) fNil))) fNil))))) (el G s3 s4 s5 (.fz (.dat v)) (.fz (.dat (.str v.shown))) (.fz (.dat (.list K))) (.fz (.dat (.str a0))) (.fz (.dat (.str b0))) (.fz (.dat (.tuple c0))) s12 s13) S = .ok (.dat (.list (inv4 a0))) S := fun s12 => by
    simp [el, fAll, fCons, fVar, tupF, lstF, datsOf, inv4]
  generalize inv1 rs.length c0.length a0 = I1 at *
  generalize inv2 G = I2 at *
  generalize inv4 a0 = I4 at *
  have t14 := sOwn_ok (i := 12) (fOp_ok (f := fVarV 12) (x := .dat (.list I1)) (S1 := S) rfl (h2 (.ow (.dat (.list I1)))) a1) rfl
  have t15 : sDropM (fMut 12 appF (fCons (fAll tupF (fCons (fVar 9) (fCons (fOp subV (fC (.int 0)) (fVarV 2)) fNil))) fNil)) (el G s3 s4 s5 (.fz (.dat v)) (.fz (.dat (.str v.shown))) (.fz (.dat (.list K))) (.fz (.dat (.str a0))) (.fz (.dat (.str b0))) (.fz (.dat (.tuple c0))) (.ow (.dat (.list (I1 ++ I2)))) s13) S = .nx (el G s3 s4 s5 (.fz (.dat v)) (.fz (.dat (.str v.shown))) (.fz (.dat (.list K))) (.fz (.dat (.str a0))) (.fz (.dat (.str b0))) (.fz (.dat (.tuple c0))) (.ow (.dat (.list (I1 ++ I2 ++ [.tuple [.str a0, .int (0 - G)]])))) s13) S := by
    generalize I1 ++ I2 = I12 at *
    have sb : subV (.dat (.int 0)) (.dat (.int G)) = some (.dat (.int (0 - G))) := rfl
    generalize (0 : Int) - G = ng at *
    simp [el, sDropM, SOut.letV, fMut, fCons, fAll, fVar, fVarV, fOp, opF, sb, tupF, datsOf, appF, l12]
  have t16 := sOwn_ok (i := 12) (fOp_ok (f := fVarV 12) (x := .dat (.list (I1 ++ I2 ++ [.tuple [.str a0, .int (0 - G)]]))) (S1 := S) rfl (h4 (.ow (.dat (.list (I1 ++ I2 ++ [.tuple [.str a0, .int (0 - G)]]))))) a2) rfl
  obtain ⟨q13, t17⟩ := bads_eq (S := S) (G := G) (s3 := s3) (s4 := s4) (s5 := s5) (s7 := .fz (.dat (.str v.shown))) (s8 := .fz (.dat (.list K))) (s9 := .fz (.dat (.str a0))) (s10 := .fz (.dat (.str b0))) (s11 := .fz (.dat (.tuple c0))) (s13 := s13) rno
  have t17' := (sFz_ow (n := 12) (f := sFor (fIt (fVar 12)) (.one 13) B_bad) (ρ := el G s3 s4 s5 (.fz (.dat v)) (.fz (.dat (.str v.shown))) (.fz (.dat (.list K))) (.fz (.dat (.str a0))) (.fz (.dat (.str b0))) (.fz (.dat (.tuple c0))) (.ow (.dat (.list (I1 ++ I2 ++ [PyData.tuple [PyData.str a0, PyData.int (0 - G)]] ++ I4)))) s13) (S := S) (x := .dat (.list (I1 ++ I2 ++ [PyData.tuple [PyData.str a0, PyData.int (0 - G)]] ++ I4))) rfl).trans t17
  exact ⟨_, _, _, _, _, _, _, (sSeq_nx t7).trans ((sSeq_nx t8).trans ((sSeq_nx t9).trans ((sSeq_nx t10).trans ((sSeq_nx t11).trans ((sSeq_nx t12).trans ((sSeq_nx t13).trans ((sSeq_nx t14).trans ((sSeq_nx t15).trans ((sSeq_nx t16).trans t17')))))))))⟩
end
end K02

namespace K02
open PySem PySem.Spec PyProof.Rows L2 L2.HL
theorem great_step {G Q : Int} {j : Nat} (q1 : 1 ≤ Q) (q2 : Q.natAbs < 2 ^ 200) (h1 : 1000 ≤ G) (h2 : G.natAbs < 2 ^ (200 * (j + 1))) (hj : j < 80) : mulV (.dat (.int G)) (.dat (.int Q)) = some (.dat (.int (G * Q))) ∧ 1000 ≤ G * Q ∧ (G * Q).natAbs < 2 ^ (200 * (j + 1 + 1)) := by
  refine ⟨?_, ?_, ?_⟩
  · have ok : mulOk G Q = true := by
      unfold mulOk
      rw [Bool.or_eq_true]
      exact .inr (decide_eq_true ⟨Nat.lt_of_lt_of_le h2 (Nat.pow_le_pow_right (by omega) (by omega)), Nat.lt_of_lt_of_le q2 (Nat.pow_le_pow_right (by omega) (by omega))⟩)
    unfold mulV
    exact if_pos ok
  · have := Int.mul_le_mul_of_nonneg_left q1 (show (0 : Int) ≤ G by omega)
    omega
  · rw [Int.natAbs_mul, show 200 * (j + 1 + 1) = 200 * (j + 1) + 200 by omega, Nat.pow_add]
    exact Nat.mul_lt_mul'' h2 q2
section
variable {S : Src} {t : Nat} {G : Int} {s3 s4 s5 s6 s7 s8 s9 s10 s11 s12 s13 : Sl}
theorem pow_eq {ρ : En} {S : Src} : fOp powV (fC (.int 10)) (fC (.int 60)) ρ S = .ok (.dat (.int (10 ^ 60))) S := fOp_ok (x := .dat (.int 10)) (y := .dat (.int 60)) rfl rfl rfl
def B_rep : SF := (sSeq (sSet 5 (fOpE idxV (fCall F__law_inventory (fCons (fVar 1) (fCons (fC (.int 24)) fNil))) (fC (.int 0))))
    (sFor (fIt (fAll lstF (fCons (fVar 5) (fCons (fCall F__law_changed (fCons (fVar 1) (fCons (fVar 5) fNil))) fNil)))) (.one 6) B_all))
theorem rep_eq (hG : 1000 ≤ G) (g : Gd t S) (ht : t ≤ 500000) : ∃ r5 r6 r7 r8 r9 r10 r11 r12 r13 S', B_rep (el G s3 s4 s5 s6 s7 s8 s9 s10 s11 s12 s13) S = .nx (el G s3 s4 r5 r6 r7 r8 r9 r10 r11 r12 r13) S' ∧ Gd (t + 500) S' := by
  obtain ⟨d, x, S1, e1, hd, g1⟩ := inventory_eq g (by omega)
  obtain ⟨c, S2, e2, hc, g2⟩ := changed_eq hd g1 (by omega)
  have q0 : atI [d, x] 0 = some d := rfl
  have t1 : sSet 5 (fOpE idxV (fCall F__law_inventory (fCons (fVar 1) (fCons (fC (.int 24)) fNil))) (fC (.int 0))) (el G s3 s4 s5 s6 s7 s8 s9 s10 s11 s12 s13) S = .nx (el G s3 s4 (.fz (.dat d)) s6 s7 s8 s9 s10 s11 s12 s13) S1 :=
    sSet_ok (fOpE_ok (fCall_ok (xs := [.src, .dat (.int 24)]) rfl e1) (y := .dat (.int 0)) rfl (by show (atI [d, x] 0).map Vl.dat = _; rw [q0]; rfl))
  have its : fIt (fAll lstF (fCons (fVar 5) (fCons (fCall F__law_changed (fCons (fVar 1) (fCons (fVar 5) fNil))) fNil))) (el G s3 s4 (.fz (.dat d)) s6 s7 s8 s9 s10 s11 s12 s13) S1 = .ok [d, c] S2 :=
    fIt_ok (x := .dat (.list [d, c])) (fAll_ok (xs := [.dat d, .dat c]) (fCons_ok (S1 := S1) rfl (fCons_ok (fCall_ok (xs := [.src, .dat d]) rfl e2) fNil_eq)) (by simp [lstF, datsOf])) rfl
  obtain ⟨ρ', S3, e3, rfl, r6, r7, r8, r9, r10, r11, r12, r13, rfl⟩ := sFor_inv (t := .one 6) (f := B_all) (ds := [d, c]) (ρ := el G s3 s4 (.fz (.dat d)) s6 s7 s8 s9 s10 s11 s12 s13) (S := S1) (S1 := S2)
    (fun j ρ S' => S' = S2 ∧ ∃ r6 r7 r8 r9 r10 r11 r12 r13, ρ = el G s3 s4 (.fz (.dat d)) r6 r7 r8 r9 r10 r11 r12 r13) its (fun j z ρ S' hz hi => by
      obtain ⟨rfl, r6, r7, r8, r9, r10, r11, r12, r13, rfl⟩ := hi
      have iz : InvOk z := by
        have m := List.mem_of_getElem? hz
        simp only [List.mem_cons, List.not_mem_nil, or_false] at m
        rcases m with rfl | rfl
        · exact hd
        · exact hc
      obtain ⟨u7, u8, u9, u10, u11, u12, u13, e⟩ := one_all (S := S') (s3 := s3) (s4 := s4) (s5 := .fz (.dat d)) (s7 := r7) (s8 := r8) (s9 := r9) (s10 := r10) (s11 := r11) (s12 := r12) (s13 := r13) iz hG
      exact ⟨_, _, S', rfl, e, rfl, _, _, _, _, _, _, _, _, rfl⟩) ⟨rfl, _, _, _, _, _, _, _, _, rfl⟩
  exact ⟨_, _, _, _, _, _, _, _, _, S3, (sSeq_nx t1).trans e3, g2.mono (by omega)⟩
theorem math_law : ∀ cs, cellsOk cs → ∃ S', B_law (rho0 14) ⟨cs, 0⟩ = .rt (.dat (.bool true)) S' := fun cs hc => by
  have q1 : (1 : Int) ≤ 10 ^ 60 := by decide +kernel
  have q2 : ((10 : Int) ^ 60).natAbs < 2 ^ 200 := by decide +kernel
  have q3 : (1000 : Int) ≤ 10 ^ 60 := by decide +kernel
  have t1 : sSet 2 (fOp powV (fC (.int 10)) (fC (.int 60))) (rho0 14) ⟨cs, 0⟩ = .nx (el (10 ^ 60) .no .no .no .no .no .no .no .no .no .no .no) ⟨cs, 0⟩ := sSet_ok pow_eq
  have pw := fun (ρ : En) (S : Src) => pow_eq (ρ := ρ) (S := S)
  generalize (10 : Int) ^ 60 = Q at *
  obtain ⟨ρ2, S2, e2, rfl, G, u3, rfl, hG, _⟩ := sFor_inv (t := .one 3) (f := sSet 2 (fOp mulV (fU noBox (fVar 2)) (fOp powV (fC (.int 10)) (fC (.int 60))))) (lf := fRng1 (fCons (fC (.int 80)) fNil)) (ds := rngFrom 0 80) (ρ := el Q .no .no .no .no .no .no .no .no .no .no .no) (S := ⟨cs, 0⟩) (S1 := ⟨cs, 0⟩)
    (fun j ρ S => S = ⟨cs, 0⟩ ∧ ∃ (G : Int) (s3 : Sl), ρ = el G s3 .no .no .no .no .no .no .no .no .no .no ∧ 1000 ≤ G ∧ G.natAbs < 2 ^ (200 * (j + 1))) (rng1_eq (n := 80) rfl (by omega)) (fun j d ρ S hd hi => by
      obtain ⟨rfl, G, s3, rfl, g1, g2⟩ := hi
      obtain ⟨_, jl⟩ := rngFrom_at hd
      obtain ⟨m1, m2, m3⟩ := great_step q1 q2 g1 g2 jl
      exact ⟨el G (.fz (.dat d)) .no .no .no .no .no .no .no .no .no .no, _, ⟨cs, 0⟩, rfl, sSet_ok (fOp_ok (fU_ok (f := fVar 2) (x := .dat (.int G)) (r := .dat (.int G)) rfl rfl) (pw _ _) m1), rfl, G * Q, .fz (.dat d), rfl, m2, m3⟩) ⟨rfl, Q, .no, rfl, q3, by rw [Nat.zero_add, Nat.mul_one]; exact q2⟩
  obtain ⟨ρ3, S3, e3, _⟩ := sFor_inv (t := .one 4) (f := B_rep) (lf := fRng1 (fCons (fC (.int 6)) fNil)) (ds := rngFrom 0 6) (ρ := el G u3 .no .no .no .no .no .no .no .no .no .no) (S := ⟨cs, 0⟩) (S1 := ⟨cs, 0⟩)
    (fun j ρ S => (∃ s4 s5 s6 s7 s8 s9 s10 s11 s12 s13, ρ = el G u3 s4 s5 s6 s7 s8 s9 s10 s11 s12 s13) ∧ Gd (500 * j) S) (rng1_eq (n := 6) rfl (by omega)) (fun j d ρ S hd hi => by
      obtain ⟨⟨s4, s5, s6, s7, s8, s9, s10, s11, s12, s13, rfl⟩, g⟩ := hi
      obtain ⟨_, jl⟩ := rngFrom_at hd
      obtain ⟨r5, r6, r7, r8, r9, r10, r11, r12, r13, S', e, g'⟩ := rep_eq (s3 := u3) (s4 := .fz (.dat d)) (s5 := s5) (s6 := s6) (s7 := s7) (s8 := s8) (s9 := s9) (s10 := s10) (s11 := s11) (s12 := s12) (s13 := s13) hG g (by omega)
      exact ⟨_, _, S', rfl, e, ⟨_, _, _, _, _, _, _, _, _, _, rfl⟩, g'.mono (by omega)⟩) ⟨⟨_, _, _, _, _, _, _, _, _, _, rfl⟩, hc.1, hc.2, Int.le_refl _, Int.le_refl _⟩
  exact ⟨S3, (sSeq_nx t1).trans ((sSeq_nx e2).trans ((sSeq_nx e3).trans rfl))⟩
end
end K02

namespace K02
open PySem PySem.Spec PyProof.Rows L2 L2.HL
theorem all_mk {P : Program} {w : World} {K : PySem.W.Frag} {h : Heap} {mg : Str → Option Value} {fa : Addr} (X : K.In h) (G : h.Ns mainGlobals mg) (hfa : mg "law" = some (.ref fa)) (math : ∀ cs, cellsOk cs → ∃ S', B_law (rho0 14) ⟨cs, 0⟩ = .rt (.dat (.bool true)) S')
    {f_is_integer f_is_word f_are_kinds f_is_item f_all_kinds f_inventory_error f_check_inventory f_slot_kinds f_item_kinds f_surplus f_is_slot f_check_slot f_list_slots f_slot_kind f_slot_surplus f__law_pick f__law_shuffle f__law_items f__law_inventory f__law_slots f__law_accepted f__law_surplus f__law_changed f__law_raised f__law_spoil f_law f__law_source f__law_draw q_InvalidInventory q_LikeholesError q_UnknownSlot fi_InvalidInventory : Addr} {oc_is_integer kV_is_integer dc_is_integer pm_is_integer cd_is_integer ct_is_integer oc_is_word kV_is_word dc_is_word pm_is_word cd_is_word ct_is_word oc_are_kinds kV_are_kinds dc_are_kinds pm_are_kinds cd_are_kinds ct_are_kinds oc_is_item kV_is_item dc_is_item pm_is_item cd_is_item ct_is_item oc_all_kinds kV_all_kinds dc_all_kinds pm_all_kinds cd_all_kinds ct_all_kinds oc_inventory_error kV_inventory_error dc_inventory_error pm_inventory_error cd_inventory_error ct_inventory_error oc_check_inventory kV_check_inventory dc_check_inventory pm_check_inventory cd_check_inventory ct_check_inventory oc_slot_kinds kV_slot_kinds dc_slot_kinds pm_slot_kinds cd_slot_kinds ct_slot_kinds oc_item_kinds kV_item_kinds dc_item_kinds pm_item_kinds cd_item_kinds ct_item_kinds oc_surplus kV_surplus dc_surplus pm_surplus cd_surplus ct_surplus oc_is_slot kV_is_slot dc_is_slot pm_is_slot cd_is_slot ct_is_slot oc_check_slot kV_check_slot dc_check_slot pm_check_slot cd_check_slot ct_check_slot oc_list_slots kV_list_slots dc_list_slots pm_list_slots cd_list_slots ct_list_slots oc_slot_kind kV_slot_kind dc_slot_kind pm_slot_kind cd_slot_kind ct_slot_kind oc_slot_surplus kV_slot_surplus dc_slot_surplus pm_slot_surplus cd_slot_surplus ct_slot_surplus oc__law_pick kV__law_pick dc__law_pick pm__law_pick cd__law_pick ct__law_pick oc__law_shuffle kV__law_shuffle dc__law_shuffle pm__law_shuffle cd__law_shuffle ct__law_shuffle oc__law_items kV__law_items dc__law_items pm__law_items cd__law_items ct__law_items oc__law_inventory kV__law_inventory dc__law_inventory pm__law_inventory cd__law_inventory ct__law_inventory oc__law_slots kV__law_slots dc__law_slots pm__law_slots cd__law_slots ct__law_slots oc__law_accepted kV__law_accepted dc__law_accepted pm__law_accepted cd__law_accepted ct__law_accepted oc__law_surplus kV__law_surplus dc__law_surplus pm__law_surplus cd__law_surplus ct__law_surplus oc__law_changed kV__law_changed dc__law_changed pm__law_changed cd__law_changed ct__law_changed oc__law_raised kV__law_raised dc__law_raised pm__law_raised cd__law_raised ct__law_raised oc__law_spoil kV__law_spoil dc__law_spoil pm__law_spoil cd__law_spoil ct__law_spoil oc_law kV_law dc_law pm_law cd_law ct_law oc__law_source kV__law_source dc__law_source pm__law_source cd__law_source ct__law_source oc__law_draw kV__law_draw dc__law_draw pm__law_draw cd__law_draw ct__law_draw oc_InvalidInventory kV_InvalidInventory dc_InvalidInventory pm_InvalidInventory cd_InvalidInventory ct_InvalidInventory : Value} {od_is_integer an_is_integer od_is_word an_is_word od_are_kinds an_are_kinds od_is_item an_is_item od_all_kinds an_all_kinds od_inventory_error an_inventory_error od_check_inventory an_check_inventory od_slot_kinds an_slot_kinds od_item_kinds an_item_kinds od_surplus an_surplus od_is_slot an_is_slot od_check_slot an_check_slot od_list_slots an_list_slots od_slot_kind an_slot_kind od_slot_surplus an_slot_surplus od__law_pick an__law_pick od__law_shuffle an__law_shuffle od__law_items an__law_items od__law_inventory an__law_inventory od__law_slots an__law_slots od__law_accepted an__law_accepted od__law_surplus an__law_surplus od__law_changed an__law_changed od__law_raised an__law_raised od__law_spoil an__law_spoil od_law an_law od__law_source an__law_source od__law_draw an__law_draw od_InvalidInventory an_InvalidInventory : Option Addr} {sl_is_integer sl_is_word sl_are_kinds sl_is_item sl_all_kinds sl_inventory_error sl_check_inventory sl_slot_kinds sl_item_kinds sl_surplus sl_is_slot sl_check_slot sl_list_slots sl_slot_kind sl_slot_surplus sl__law_pick sl__law_shuffle sl__law_items sl__law_inventory sl__law_slots sl__law_accepted sl__law_surplus sl__law_changed sl__law_raised sl__law_spoil sl_law sl__law_source sl__law_draw sl_InvalidInventory : Array (Option Value)} {t_LETTERS t_MAX_ITEMS t_MAX_KINDS t_MAX_ROOTS t_MAX_SLOTS t_MAX_WORD : Tok} {nm_InvalidInventory qn_InvalidInventory : Str} {N_InvalidInventory : Addr} {bs_InvalidInventory bm_InvalidInventory : List Value} {sn_InvalidInventory sub_InvalidInventory ab_InvalidInventory col_InvalidInventory dd_InvalidInventory k0_InvalidInventory k1_InvalidInventory k2_InvalidInventory k3_InvalidInventory k5_InvalidInventory}
    (a_is_integer : PySem.W.nsIn K mainGlobals "is_integer" = some (some (.ref f_is_integer)))
    (l_is_integer : K.lookup f_is_integer = some ⟨oc_is_integer, od_is_integer, .func (PySem.W.fnOf "is_integer" "is_integer" (defArgs s_is_integer) (defBody s_is_integer) (defScope s_is_integer) .none kV_is_integer dc_is_integer pm_is_integer an_is_integer cd_is_integer ct_is_integer), sl_is_integer⟩)
    (c_is_integer : PySem.W.codeIn K cd_is_integer "is_integer" = true)
    (k_is_integer : PySem.W.keepIn K (.ref f_is_integer) = true)
    (a_is_word : PySem.W.nsIn K mainGlobals "is_word" = some (some (.ref f_is_word)))
    (l_is_word : K.lookup f_is_word = some ⟨oc_is_word, od_is_word, .func (PySem.W.fnOf "is_word" "is_word" (defArgs s_is_word) (defBody s_is_word) (defScope s_is_word) .none kV_is_word dc_is_word pm_is_word an_is_word cd_is_word ct_is_word), sl_is_word⟩)
    (c_is_word : PySem.W.codeIn K cd_is_word "is_word" = true)
    (k_is_word : PySem.W.keepIn K (.ref f_is_word) = true)
    (a_are_kinds : PySem.W.nsIn K mainGlobals "are_kinds" = some (some (.ref f_are_kinds)))
    (l_are_kinds : K.lookup f_are_kinds = some ⟨oc_are_kinds, od_are_kinds, .func (PySem.W.fnOf "are_kinds" "are_kinds" (defArgs s_are_kinds) (defBody s_are_kinds) (defScope s_are_kinds) .none kV_are_kinds dc_are_kinds pm_are_kinds an_are_kinds cd_are_kinds ct_are_kinds), sl_are_kinds⟩)
    (c_are_kinds : PySem.W.codeIn K cd_are_kinds "are_kinds" = true)
    (k_are_kinds : PySem.W.keepIn K (.ref f_are_kinds) = true)
    (a_is_item : PySem.W.nsIn K mainGlobals "is_item" = some (some (.ref f_is_item)))
    (l_is_item : K.lookup f_is_item = some ⟨oc_is_item, od_is_item, .func (PySem.W.fnOf "is_item" "is_item" (defArgs s_is_item) (defBody s_is_item) (defScope s_is_item) .none kV_is_item dc_is_item pm_is_item an_is_item cd_is_item ct_is_item), sl_is_item⟩)
    (c_is_item : PySem.W.codeIn K cd_is_item "is_item" = true)
    (k_is_item : PySem.W.keepIn K (.ref f_is_item) = true)
    (a_all_kinds : PySem.W.nsIn K mainGlobals "all_kinds" = some (some (.ref f_all_kinds)))
    (l_all_kinds : K.lookup f_all_kinds = some ⟨oc_all_kinds, od_all_kinds, .func (PySem.W.fnOf "all_kinds" "all_kinds" (defArgs s_all_kinds) (defBody s_all_kinds) (defScope s_all_kinds) .none kV_all_kinds dc_all_kinds pm_all_kinds an_all_kinds cd_all_kinds ct_all_kinds), sl_all_kinds⟩)
    (c_all_kinds : PySem.W.codeIn K cd_all_kinds "all_kinds" = true)
    (k_all_kinds : PySem.W.keepIn K (.ref f_all_kinds) = true)
    (a_inventory_error : PySem.W.nsIn K mainGlobals "inventory_error" = some (some (.ref f_inventory_error)))
    (l_inventory_error : K.lookup f_inventory_error = some ⟨oc_inventory_error, od_inventory_error, .func (PySem.W.fnOf "inventory_error" "inventory_error" (defArgs s_inventory_error) (defBody s_inventory_error) (defScope s_inventory_error) .none kV_inventory_error dc_inventory_error pm_inventory_error an_inventory_error cd_inventory_error ct_inventory_error), sl_inventory_error⟩)
    (c_inventory_error : PySem.W.codeIn K cd_inventory_error "inventory_error" = true)
    (k_inventory_error : PySem.W.keepIn K (.ref f_inventory_error) = true)
    (a_check_inventory : PySem.W.nsIn K mainGlobals "check_inventory" = some (some (.ref f_check_inventory)))
    (l_check_inventory : K.lookup f_check_inventory = some ⟨oc_check_inventory, od_check_inventory, .func (PySem.W.fnOf "check_inventory" "check_inventory" (defArgs s_check_inventory) (defBody s_check_inventory) (defScope s_check_inventory) .none kV_check_inventory dc_check_inventory pm_check_inventory an_check_inventory cd_check_inventory ct_check_inventory), sl_check_inventory⟩)
    (c_check_inventory : PySem.W.codeIn K cd_check_inventory "check_inventory" = true)
    (k_check_inventory : PySem.W.keepIn K (.ref f_check_inventory) = true)
    (a_slot_kinds : PySem.W.nsIn K mainGlobals "slot_kinds" = some (some (.ref f_slot_kinds)))
    (l_slot_kinds : K.lookup f_slot_kinds = some ⟨oc_slot_kinds, od_slot_kinds, .func (PySem.W.fnOf "slot_kinds" "slot_kinds" (defArgs s_slot_kinds) (defBody s_slot_kinds) (defScope s_slot_kinds) .none kV_slot_kinds dc_slot_kinds pm_slot_kinds an_slot_kinds cd_slot_kinds ct_slot_kinds), sl_slot_kinds⟩)
    (c_slot_kinds : PySem.W.codeIn K cd_slot_kinds "slot_kinds" = true)
    (k_slot_kinds : PySem.W.keepIn K (.ref f_slot_kinds) = true)
    (a_item_kinds : PySem.W.nsIn K mainGlobals "item_kinds" = some (some (.ref f_item_kinds)))
    (l_item_kinds : K.lookup f_item_kinds = some ⟨oc_item_kinds, od_item_kinds, .func (PySem.W.fnOf "item_kinds" "item_kinds" (defArgs s_item_kinds) (defBody s_item_kinds) (defScope s_item_kinds) .none kV_item_kinds dc_item_kinds pm_item_kinds an_item_kinds cd_item_kinds ct_item_kinds), sl_item_kinds⟩)
    (c_item_kinds : PySem.W.codeIn K cd_item_kinds "item_kinds" = true)
    (k_item_kinds : PySem.W.keepIn K (.ref f_item_kinds) = true)
    (a_surplus : PySem.W.nsIn K mainGlobals "surplus" = some (some (.ref f_surplus)))
    (l_surplus : K.lookup f_surplus = some ⟨oc_surplus, od_surplus, .func (PySem.W.fnOf "surplus" "surplus" (defArgs s_surplus) (defBody s_surplus) (defScope s_surplus) .none kV_surplus dc_surplus pm_surplus an_surplus cd_surplus ct_surplus), sl_surplus⟩)
    (c_surplus : PySem.W.codeIn K cd_surplus "surplus" = true)
    (k_surplus : PySem.W.keepIn K (.ref f_surplus) = true)
    (a_is_slot : PySem.W.nsIn K mainGlobals "is_slot" = some (some (.ref f_is_slot)))
    (l_is_slot : K.lookup f_is_slot = some ⟨oc_is_slot, od_is_slot, .func (PySem.W.fnOf "is_slot" "is_slot" (defArgs s_is_slot) (defBody s_is_slot) (defScope s_is_slot) .none kV_is_slot dc_is_slot pm_is_slot an_is_slot cd_is_slot ct_is_slot), sl_is_slot⟩)
    (c_is_slot : PySem.W.codeIn K cd_is_slot "is_slot" = true)
    (k_is_slot : PySem.W.keepIn K (.ref f_is_slot) = true)
    (a_check_slot : PySem.W.nsIn K mainGlobals "check_slot" = some (some (.ref f_check_slot)))
    (l_check_slot : K.lookup f_check_slot = some ⟨oc_check_slot, od_check_slot, .func (PySem.W.fnOf "check_slot" "check_slot" (defArgs s_check_slot) (defBody s_check_slot) (defScope s_check_slot) .none kV_check_slot dc_check_slot pm_check_slot an_check_slot cd_check_slot ct_check_slot), sl_check_slot⟩)
    (c_check_slot : PySem.W.codeIn K cd_check_slot "check_slot" = true)
    (k_check_slot : PySem.W.keepIn K (.ref f_check_slot) = true)
    (a_list_slots : PySem.W.nsIn K mainGlobals "list_slots" = some (some (.ref f_list_slots)))
    (l_list_slots : K.lookup f_list_slots = some ⟨oc_list_slots, od_list_slots, .func (PySem.W.fnOf "list_slots" "list_slots" (defArgs s_list_slots) (defBody s_list_slots) (defScope s_list_slots) .none kV_list_slots dc_list_slots pm_list_slots an_list_slots cd_list_slots ct_list_slots), sl_list_slots⟩)
    (c_list_slots : PySem.W.codeIn K cd_list_slots "list_slots" = true)
    (k_list_slots : PySem.W.keepIn K (.ref f_list_slots) = true)
    (a_slot_kind : PySem.W.nsIn K mainGlobals "slot_kind" = some (some (.ref f_slot_kind)))
    (l_slot_kind : K.lookup f_slot_kind = some ⟨oc_slot_kind, od_slot_kind, .func (PySem.W.fnOf "slot_kind" "slot_kind" (defArgs s_slot_kind) (defBody s_slot_kind) (defScope s_slot_kind) .none kV_slot_kind dc_slot_kind pm_slot_kind an_slot_kind cd_slot_kind ct_slot_kind), sl_slot_kind⟩)
    (c_slot_kind : PySem.W.codeIn K cd_slot_kind "slot_kind" = true)
    (k_slot_kind : PySem.W.keepIn K (.ref f_slot_kind) = true)
    (a_slot_surplus : PySem.W.nsIn K mainGlobals "slot_surplus" = some (some (.ref f_slot_surplus)))
    (l_slot_surplus : K.lookup f_slot_surplus = some ⟨oc_slot_surplus, od_slot_surplus, .func (PySem.W.fnOf "slot_surplus" "slot_surplus" (defArgs s_slot_surplus) (defBody s_slot_surplus) (defScope s_slot_surplus) .none kV_slot_surplus dc_slot_surplus pm_slot_surplus an_slot_surplus cd_slot_surplus ct_slot_surplus), sl_slot_surplus⟩)
    (c_slot_surplus : PySem.W.codeIn K cd_slot_surplus "slot_surplus" = true)
    (k_slot_surplus : PySem.W.keepIn K (.ref f_slot_surplus) = true)
    (a__law_pick : PySem.W.nsIn K mainGlobals "_law_pick" = some (some (.ref f__law_pick)))
    (l__law_pick : K.lookup f__law_pick = some ⟨oc__law_pick, od__law_pick, .func (PySem.W.fnOf "_law_pick" "_law_pick" (defArgs s__law_pick) (defBody s__law_pick) (defScope s__law_pick) .none kV__law_pick dc__law_pick pm__law_pick an__law_pick cd__law_pick ct__law_pick), sl__law_pick⟩)
    (c__law_pick : PySem.W.codeIn K cd__law_pick "_law_pick" = true)
    (k__law_pick : PySem.W.keepIn K (.ref f__law_pick) = true)
    (a__law_shuffle : PySem.W.nsIn K mainGlobals "_law_shuffle" = some (some (.ref f__law_shuffle)))
    (l__law_shuffle : K.lookup f__law_shuffle = some ⟨oc__law_shuffle, od__law_shuffle, .func (PySem.W.fnOf "_law_shuffle" "_law_shuffle" (defArgs s__law_shuffle) (defBody s__law_shuffle) (defScope s__law_shuffle) .none kV__law_shuffle dc__law_shuffle pm__law_shuffle an__law_shuffle cd__law_shuffle ct__law_shuffle), sl__law_shuffle⟩)
    (c__law_shuffle : PySem.W.codeIn K cd__law_shuffle "_law_shuffle" = true)
    (k__law_shuffle : PySem.W.keepIn K (.ref f__law_shuffle) = true)
    (a__law_items : PySem.W.nsIn K mainGlobals "_law_items" = some (some (.ref f__law_items)))
    (l__law_items : K.lookup f__law_items = some ⟨oc__law_items, od__law_items, .func (PySem.W.fnOf "_law_items" "_law_items" (defArgs s__law_items) (defBody s__law_items) (defScope s__law_items) .none kV__law_items dc__law_items pm__law_items an__law_items cd__law_items ct__law_items), sl__law_items⟩)
    (c__law_items : PySem.W.codeIn K cd__law_items "_law_items" = true)
    (k__law_items : PySem.W.keepIn K (.ref f__law_items) = true)
    (a__law_inventory : PySem.W.nsIn K mainGlobals "_law_inventory" = some (some (.ref f__law_inventory)))
    (l__law_inventory : K.lookup f__law_inventory = some ⟨oc__law_inventory, od__law_inventory, .func (PySem.W.fnOf "_law_inventory" "_law_inventory" (defArgs s__law_inventory) (defBody s__law_inventory) (defScope s__law_inventory) .none kV__law_inventory dc__law_inventory pm__law_inventory an__law_inventory cd__law_inventory ct__law_inventory), sl__law_inventory⟩)
    (c__law_inventory : PySem.W.codeIn K cd__law_inventory "_law_inventory" = true)
    (k__law_inventory : PySem.W.keepIn K (.ref f__law_inventory) = true)
    (a__law_slots : PySem.W.nsIn K mainGlobals "_law_slots" = some (some (.ref f__law_slots)))
    (l__law_slots : K.lookup f__law_slots = some ⟨oc__law_slots, od__law_slots, .func (PySem.W.fnOf "_law_slots" "_law_slots" (defArgs s__law_slots) (defBody s__law_slots) (defScope s__law_slots) .none kV__law_slots dc__law_slots pm__law_slots an__law_slots cd__law_slots ct__law_slots), sl__law_slots⟩)
    (c__law_slots : PySem.W.codeIn K cd__law_slots "_law_slots" = true)
    (k__law_slots : PySem.W.keepIn K (.ref f__law_slots) = true)
    (a__law_accepted : PySem.W.nsIn K mainGlobals "_law_accepted" = some (some (.ref f__law_accepted)))
    (l__law_accepted : K.lookup f__law_accepted = some ⟨oc__law_accepted, od__law_accepted, .func (PySem.W.fnOf "_law_accepted" "_law_accepted" (defArgs s__law_accepted) (defBody s__law_accepted) (defScope s__law_accepted) .none kV__law_accepted dc__law_accepted pm__law_accepted an__law_accepted cd__law_accepted ct__law_accepted), sl__law_accepted⟩)
    (c__law_accepted : PySem.W.codeIn K cd__law_accepted "_law_accepted" = true)
    (k__law_accepted : PySem.W.keepIn K (.ref f__law_accepted) = true)
    (a__law_surplus : PySem.W.nsIn K mainGlobals "_law_surplus" = some (some (.ref f__law_surplus)))
    (l__law_surplus : K.lookup f__law_surplus = some ⟨oc__law_surplus, od__law_surplus, .func (PySem.W.fnOf "_law_surplus" "_law_surplus" (defArgs s__law_surplus) (defBody s__law_surplus) (defScope s__law_surplus) .none kV__law_surplus dc__law_surplus pm__law_surplus an__law_surplus cd__law_surplus ct__law_surplus), sl__law_surplus⟩)
    (c__law_surplus : PySem.W.codeIn K cd__law_surplus "_law_surplus" = true)
    (k__law_surplus : PySem.W.keepIn K (.ref f__law_surplus) = true)
    (a__law_changed : PySem.W.nsIn K mainGlobals "_law_changed" = some (some (.ref f__law_changed)))
    (l__law_changed : K.lookup f__law_changed = some ⟨oc__law_changed, od__law_changed, .func (PySem.W.fnOf "_law_changed" "_law_changed" (defArgs s__law_changed) (defBody s__law_changed) (defScope s__law_changed) .none kV__law_changed dc__law_changed pm__law_changed an__law_changed cd__law_changed ct__law_changed), sl__law_changed⟩)
    (c__law_changed : PySem.W.codeIn K cd__law_changed "_law_changed" = true)
    (k__law_changed : PySem.W.keepIn K (.ref f__law_changed) = true)
    (a__law_raised : PySem.W.nsIn K mainGlobals "_law_raised" = some (some (.ref f__law_raised)))
    (l__law_raised : K.lookup f__law_raised = some ⟨oc__law_raised, od__law_raised, .func (PySem.W.fnOf "_law_raised" "_law_raised" (defArgs s__law_raised) (defBody s__law_raised) (defScope s__law_raised) .none kV__law_raised dc__law_raised pm__law_raised an__law_raised cd__law_raised ct__law_raised), sl__law_raised⟩)
    (c__law_raised : PySem.W.codeIn K cd__law_raised "_law_raised" = true)
    (k__law_raised : PySem.W.keepIn K (.ref f__law_raised) = true)
    (a__law_spoil : PySem.W.nsIn K mainGlobals "_law_spoil" = some (some (.ref f__law_spoil)))
    (l__law_spoil : K.lookup f__law_spoil = some ⟨oc__law_spoil, od__law_spoil, .func (PySem.W.fnOf "_law_spoil" "_law_spoil" (defArgs s__law_spoil) (defBody s__law_spoil) (defScope s__law_spoil) .none kV__law_spoil dc__law_spoil pm__law_spoil an__law_spoil cd__law_spoil ct__law_spoil), sl__law_spoil⟩)
    (c__law_spoil : PySem.W.codeIn K cd__law_spoil "_law_spoil" = true)
    (k__law_spoil : PySem.W.keepIn K (.ref f__law_spoil) = true)
    (a_law : PySem.W.nsIn K mainGlobals "law" = some (some (.ref f_law)))
    (l_law : K.lookup f_law = some ⟨oc_law, od_law, .func (PySem.W.fnOf "law" "law" (defArgs s_law) (defBody s_law) (defScope s_law) .none kV_law dc_law pm_law an_law cd_law ct_law), sl_law⟩)
    (c_law : PySem.W.codeIn K cd_law "law" = true)
    (k_law : PySem.W.keepIn K (.ref f_law) = true)
    (a__law_source : PySem.W.nsIn K mainGlobals "_law_source" = some (some (.ref f__law_source)))
    (l__law_source : K.lookup f__law_source = some ⟨oc__law_source, od__law_source, .func (PySem.W.fnOf "_law_source" "_law_source" (defArgs s__law_source) (defBody s__law_source) (defScope s__law_source) .none kV__law_source dc__law_source pm__law_source an__law_source cd__law_source ct__law_source), sl__law_source⟩)
    (c__law_source : PySem.W.codeIn K cd__law_source "_law_source" = true)
    (k__law_source : PySem.W.keepIn K (.ref f__law_source) = true)
    (a__law_draw : PySem.W.nsIn K mainGlobals "_law_draw" = some (some (.ref f__law_draw)))
    (l__law_draw : K.lookup f__law_draw = some ⟨oc__law_draw, od__law_draw, .func (PySem.W.fnOf "_law_draw" "_law_draw" (defArgs s__law_draw) (defBody s__law_draw) (defScope s__law_draw) .none kV__law_draw dc__law_draw pm__law_draw an__law_draw cd__law_draw ct__law_draw), sl__law_draw⟩)
    (c__law_draw : PySem.W.codeIn K cd__law_draw "_law_draw" = true)
    (k__law_draw : PySem.W.keepIn K (.ref f__law_draw) = true)
    (a_InvalidInventory : PySem.W.nsIn K mainGlobals "InvalidInventory" = some (some (.ref q_InvalidInventory)))
    (a_LikeholesError : PySem.W.nsIn K mainGlobals "LikeholesError" = some (some (.ref q_LikeholesError)))
    (a_UnknownSlot : PySem.W.nsIn K mainGlobals "UnknownSlot" = some (some (.ref q_UnknownSlot)))
    (b1_LikeholesError : PySem.W.specialIn K (.ref q_LikeholesError) "__getattribute__" = some (some (.builtin "type.__getattribute__")))
    (b2_LikeholesError : PySem.W.readsIn K q_LikeholesError (.type "type") = true)
    (b3_LikeholesError : PySem.W.findCls K (.ref q_LikeholesError) (.type "type") "__init__" = some (.val (.builtin "ValueError.__init__")))
    (e1_InvalidInventory : PySem.W.subIn K (.ref q_InvalidInventory) (.type "BaseException") = some true)
    (e2_InvalidInventory : PySem.W.typeIn K (.ref q_InvalidInventory) = some (.type "type"))
    (e3_InvalidInventory : PySem.W.keepIn K (.ref q_InvalidInventory) = true)
    (o_InvalidInventory : K.lookup q_InvalidInventory = some (excClassObj nm_InvalidInventory qn_InvalidInventory q_InvalidInventory N_InvalidInventory bs_InvalidInventory bm_InvalidInventory true sn_InvalidInventory sub_InvalidInventory ab_InvalidInventory col_InvalidInventory dd_InvalidInventory k0_InvalidInventory k1_InvalidInventory k2_InvalidInventory k3_InvalidInventory k5_InvalidInventory "ValueError.__new__"))
    (o2_InvalidInventory : PySem.HandSPX.refsVE bm_InvalidInventory = true)
    (o3_InvalidInventory : PySem.W.findIn K (.ref q_InvalidInventory) "__setattr__" = some (some (.builtin "object.__setattr__")))
    (i1_InvalidInventory : PySem.W.findIn K (.ref q_InvalidInventory) "__init__" = some (some (.ref fi_InvalidInventory)))
    (i2_InvalidInventory : PySem.W.typeIn K (.ref fi_InvalidInventory) = some (.type "function"))
    (l_InvalidInventory : K.lookup fi_InvalidInventory = some ⟨oc_InvalidInventory, od_InvalidInventory, .func (PySem.W.fnOf "__init__" "InvalidInventory.__init__" (defArgs i_InvalidInventory) (defBody i_InvalidInventory) (defScope i_InvalidInventory) .none kV_InvalidInventory dc_InvalidInventory pm_InvalidInventory an_InvalidInventory cd_InvalidInventory ct_InvalidInventory), sl_InvalidInventory⟩)
    (c_InvalidInventory : PySem.W.codeIn K cd_InvalidInventory "InvalidInventory.__init__" = true)
    (k_InvalidInventory : PySem.W.keepIn K (.ref fi_InvalidInventory) = true)
    (n_InvalidInventory : PySem.W.findIn K (.ref q_InvalidInventory) "reason" = some none)
    (e1_UnknownSlot : PySem.W.subIn K (.ref q_UnknownSlot) (.type "BaseException") = some true)
    (e2_UnknownSlot : PySem.W.typeIn K (.ref q_UnknownSlot) = some (.type "type"))
    (e3_UnknownSlot : PySem.W.keepIn K (.ref q_UnknownSlot) = true)
    (m_UnknownSlot : PySem.W.excIn K q_UnknownSlot [.type "ValueError", .type "Exception", .type "BaseException", .type "object"] "ValueError.__new__" = true)
    (w1 : PySem.W.specialIn K (.builtin "object.__class__") "__get__" = some (some (.builtin "getset_descriptor.__get__")))
    (w2 : PySem.W.takesIn K (.builtin "object.__class__") = some true)
    (v2_InvalidInventory : PySem.W.findIn K (.ref q_InvalidInventory) "__getattribute__" = some (some (.builtin "BaseException.__getattribute__")))
    (v3_InvalidInventory : PySem.W.findIn K (.ref q_InvalidInventory) "__getattr__" = some none)
    (v4_InvalidInventory : PySem.W.findIn K (.ref q_InvalidInventory) "__class__" = some (some (.builtin "object.__class__")))
    (v5_InvalidInventory : PySem.W.mroIn K q_InvalidInventory (.type "object") = some true)
    (v6_InvalidInventory : PySem.W.hasDictIn K q_InvalidInventory = true)
    (v2_UnknownSlot : PySem.W.findIn K (.ref q_UnknownSlot) "__getattribute__" = some (some (.builtin "BaseException.__getattribute__")))
    (v3_UnknownSlot : PySem.W.findIn K (.ref q_UnknownSlot) "__getattr__" = some none)
    (v4_UnknownSlot : PySem.W.findIn K (.ref q_UnknownSlot) "__class__" = some (some (.builtin "object.__class__")))
    (v5_UnknownSlot : PySem.W.mroIn K q_UnknownSlot (.type "object") = some true)
    (v6_UnknownSlot : PySem.W.hasDictIn K q_UnknownSlot = true)
    (e1_LikeholesError : PySem.W.subIn K (.ref q_LikeholesError) (.type "BaseException") = some true)
    (e2_LikeholesError : PySem.W.typeIn K (.ref q_LikeholesError) = some (.type "type"))
    (v6_LikeholesError : PySem.W.hasDictIn K q_LikeholesError = true)
    (t_LikeholesError_InvalidInventory : (PySem.W.subIn K (.ref q_InvalidInventory) (.ref q_LikeholesError) = some true))
    (t_LikeholesError_UnknownSlot : (PySem.W.subIn K (.ref q_UnknownSlot) (.ref q_LikeholesError) = some true))
    (u0_InvalidInventory : PySem.W.subIn K (.type "NoneType") (.ref q_InvalidInventory) = some false)
    (s_InvalidInventory : PySem.W.subIn K (.ref q_InvalidInventory) (.ref q_InvalidInventory) = some true)
    (u_InvalidInventory_InvalidInventory : (PySem.W.subIn K (.ref q_InvalidInventory) (.ref q_InvalidInventory) = some true))
    (u_InvalidInventory_UnknownSlot : (PySem.W.subIn K (.ref q_UnknownSlot) (.ref q_InvalidInventory) = some false))
    (u0_UnknownSlot : PySem.W.subIn K (.type "NoneType") (.ref q_UnknownSlot) = some false)
    (s_UnknownSlot : PySem.W.subIn K (.ref q_UnknownSlot) (.ref q_UnknownSlot) = some true)
    (u_UnknownSlot_InvalidInventory : (PySem.W.subIn K (.ref q_InvalidInventory) (.ref q_UnknownSlot) = some false))
    (u_UnknownSlot_UnknownSlot : (PySem.W.subIn K (.ref q_UnknownSlot) (.ref q_UnknownSlot) = some true))
    (u0_ValueError : PySem.W.subIn K (.type "NoneType") (.type "ValueError") = some false)
    (u_ValueError_InvalidInventory : (PySem.W.subIn K (.ref q_InvalidInventory) (.type "ValueError") = some true))
    (u_ValueError_UnknownSlot : (PySem.W.subIn K (.ref q_UnknownSlot) (.type "ValueError") = some true))
    (d_LETTERS : PySem.W.nsIn K mainGlobals "LETTERS" = some (some (.str "abcdefghijklmnopqrstuvwxyz" t_LETTERS)))
    (d_MAX_ITEMS : PySem.W.nsIn K mainGlobals "MAX_ITEMS" = some (some (.int 24 t_MAX_ITEMS)))
    (d_MAX_KINDS : PySem.W.nsIn K mainGlobals "MAX_KINDS" = some (some (.int 6 t_MAX_KINDS)))
    (d_MAX_ROOTS : PySem.W.nsIn K mainGlobals "MAX_ROOTS" = some (some (.int 4 t_MAX_ROOTS)))
    (d_MAX_SLOTS : PySem.W.nsIn K mainGlobals "MAX_SLOTS" = some (some (.int 4 t_MAX_SLOTS)))
    (d_MAX_WORD : PySem.W.nsIn K mainGlobals "MAX_WORD" = some (some (.int 8 t_MAX_WORD)))
    (z_ValueError : PySem.W.nsIn K mainGlobals "ValueError" = some none)
    (z_abs : PySem.W.nsIn K mainGlobals "abs" = some none)
    (z_all : PySem.W.nsIn K mainGlobals "all" = some none)
    (z_bool : PySem.W.nsIn K mainGlobals "bool" = some none)
    (z_enumerate : PySem.W.nsIn K mainGlobals "enumerate" = some none)
    (z_int : PySem.W.nsIn K mainGlobals "int" = some none)
    (z_isinstance : PySem.W.nsIn K mainGlobals "isinstance" = some none)
    (z_len : PySem.W.nsIn K mainGlobals "len" = some none)
    (z_list : PySem.W.nsIn K mainGlobals "list" = some none)
    (z_min : PySem.W.nsIn K mainGlobals "min" = some none)
    (z_range : PySem.W.nsIn K mainGlobals "range" = some none)
    (z_repr : PySem.W.nsIn K mainGlobals "repr" = some none)
    (z_set : PySem.W.nsIn K mainGlobals "set" = some none)
    (z_sorted : PySem.W.nsIn K mainGlobals "sorted" = some none)
    (z_str : PySem.W.nsIn K mainGlobals "str" = some none)
    (z_tuple : PySem.W.nsIn K mainGlobals "tuple" = some none) :
    ∃ fd : FuncData, (∀ (s : Shared) (u : Value), BindsTo s fd ⟨[u], []⟩ [("_law_script", u)]) ∧ ∀ base : Heap, K.In base → base.Ns mainGlobals mg → FnG P w K mg base (L2.CX P w) 8 fa fd ["_law_script"] (spLaw K) := by
  cases hfa.symm.trans (PySem.W.mg_of X G a_law)
  let A : Ad := { is_integer := f_is_integer, fd_is_integer := PySem.W.fnOf "is_integer" "is_integer" (defArgs s_is_integer) (defBody s_is_integer) (defScope s_is_integer) .none kV_is_integer dc_is_integer pm_is_integer an_is_integer cd_is_integer ct_is_integer, is_word := f_is_word, fd_is_word := PySem.W.fnOf "is_word" "is_word" (defArgs s_is_word) (defBody s_is_word) (defScope s_is_word) .none kV_is_word dc_is_word pm_is_word an_is_word cd_is_word ct_is_word, are_kinds := f_are_kinds, fd_are_kinds := PySem.W.fnOf "are_kinds" "are_kinds" (defArgs s_are_kinds) (defBody s_are_kinds) (defScope s_are_kinds) .none kV_are_kinds dc_are_kinds pm_are_kinds an_are_kinds cd_are_kinds ct_are_kinds, is_item := f_is_item, fd_is_item := PySem.W.fnOf "is_item" "is_item" (defArgs s_is_item) (defBody s_is_item) (defScope s_is_item) .none kV_is_item dc_is_item pm_is_item an_is_item cd_is_item ct_is_item, all_kinds := f_all_kinds, fd_all_kinds := PySem.W.fnOf "all_kinds" "all_kinds" (defArgs s_all_kinds) (defBody s_all_kinds) (defScope s_all_kinds) .none kV_all_kinds dc_all_kinds pm_all_kinds an_all_kinds cd_all_kinds ct_all_kinds, inventory_error := f_inventory_error, fd_inventory_error := PySem.W.fnOf "inventory_error" "inventory_error" (defArgs s_inventory_error) (defBody s_inventory_error) (defScope s_inventory_error) .none kV_inventory_error dc_inventory_error pm_inventory_error an_inventory_error cd_inventory_error ct_inventory_error, check_inventory := f_check_inventory, fd_check_inventory := PySem.W.fnOf "check_inventory" "check_inventory" (defArgs s_check_inventory) (defBody s_check_inventory) (defScope s_check_inventory) .none kV_check_inventory dc_check_inventory pm_check_inventory an_check_inventory cd_check_inventory ct_check_inventory, slot_kinds := f_slot_kinds, fd_slot_kinds := PySem.W.fnOf "slot_kinds" "slot_kinds" (defArgs s_slot_kinds) (defBody s_slot_kinds) (defScope s_slot_kinds) .none kV_slot_kinds dc_slot_kinds pm_slot_kinds an_slot_kinds cd_slot_kinds ct_slot_kinds, item_kinds := f_item_kinds, fd_item_kinds := PySem.W.fnOf "item_kinds" "item_kinds" (defArgs s_item_kinds) (defBody s_item_kinds) (defScope s_item_kinds) .none kV_item_kinds dc_item_kinds pm_item_kinds an_item_kinds cd_item_kinds ct_item_kinds, surplus := f_surplus, fd_surplus := PySem.W.fnOf "surplus" "surplus" (defArgs s_surplus) (defBody s_surplus) (defScope s_surplus) .none kV_surplus dc_surplus pm_surplus an_surplus cd_surplus ct_surplus, is_slot := f_is_slot, fd_is_slot := PySem.W.fnOf "is_slot" "is_slot" (defArgs s_is_slot) (defBody s_is_slot) (defScope s_is_slot) .none kV_is_slot dc_is_slot pm_is_slot an_is_slot cd_is_slot ct_is_slot, check_slot := f_check_slot, fd_check_slot := PySem.W.fnOf "check_slot" "check_slot" (defArgs s_check_slot) (defBody s_check_slot) (defScope s_check_slot) .none kV_check_slot dc_check_slot pm_check_slot an_check_slot cd_check_slot ct_check_slot, list_slots := f_list_slots, fd_list_slots := PySem.W.fnOf "list_slots" "list_slots" (defArgs s_list_slots) (defBody s_list_slots) (defScope s_list_slots) .none kV_list_slots dc_list_slots pm_list_slots an_list_slots cd_list_slots ct_list_slots, slot_kind := f_slot_kind, fd_slot_kind := PySem.W.fnOf "slot_kind" "slot_kind" (defArgs s_slot_kind) (defBody s_slot_kind) (defScope s_slot_kind) .none kV_slot_kind dc_slot_kind pm_slot_kind an_slot_kind cd_slot_kind ct_slot_kind, slot_surplus := f_slot_surplus, fd_slot_surplus := PySem.W.fnOf "slot_surplus" "slot_surplus" (defArgs s_slot_surplus) (defBody s_slot_surplus) (defScope s_slot_surplus) .none kV_slot_surplus dc_slot_surplus pm_slot_surplus an_slot_surplus cd_slot_surplus ct_slot_surplus, _law_pick := f__law_pick, fd__law_pick := PySem.W.fnOf "_law_pick" "_law_pick" (defArgs s__law_pick) (defBody s__law_pick) (defScope s__law_pick) .none kV__law_pick dc__law_pick pm__law_pick an__law_pick cd__law_pick ct__law_pick, _law_shuffle := f__law_shuffle, fd__law_shuffle := PySem.W.fnOf "_law_shuffle" "_law_shuffle" (defArgs s__law_shuffle) (defBody s__law_shuffle) (defScope s__law_shuffle) .none kV__law_shuffle dc__law_shuffle pm__law_shuffle an__law_shuffle cd__law_shuffle ct__law_shuffle, _law_items := f__law_items, fd__law_items := PySem.W.fnOf "_law_items" "_law_items" (defArgs s__law_items) (defBody s__law_items) (defScope s__law_items) .none kV__law_items dc__law_items pm__law_items an__law_items cd__law_items ct__law_items, _law_inventory := f__law_inventory, fd__law_inventory := PySem.W.fnOf "_law_inventory" "_law_inventory" (defArgs s__law_inventory) (defBody s__law_inventory) (defScope s__law_inventory) .none kV__law_inventory dc__law_inventory pm__law_inventory an__law_inventory cd__law_inventory ct__law_inventory, _law_slots := f__law_slots, fd__law_slots := PySem.W.fnOf "_law_slots" "_law_slots" (defArgs s__law_slots) (defBody s__law_slots) (defScope s__law_slots) .none kV__law_slots dc__law_slots pm__law_slots an__law_slots cd__law_slots ct__law_slots, _law_accepted := f__law_accepted, fd__law_accepted := PySem.W.fnOf "_law_accepted" "_law_accepted" (defArgs s__law_accepted) (defBody s__law_accepted) (defScope s__law_accepted) .none kV__law_accepted dc__law_accepted pm__law_accepted an__law_accepted cd__law_accepted ct__law_accepted, _law_surplus := f__law_surplus, fd__law_surplus := PySem.W.fnOf "_law_surplus" "_law_surplus" (defArgs s__law_surplus) (defBody s__law_surplus) (defScope s__law_surplus) .none kV__law_surplus dc__law_surplus pm__law_surplus an__law_surplus cd__law_surplus ct__law_surplus, _law_changed := f__law_changed, fd__law_changed := PySem.W.fnOf "_law_changed" "_law_changed" (defArgs s__law_changed) (defBody s__law_changed) (defScope s__law_changed) .none kV__law_changed dc__law_changed pm__law_changed an__law_changed cd__law_changed ct__law_changed, _law_raised := f__law_raised, fd__law_raised := PySem.W.fnOf "_law_raised" "_law_raised" (defArgs s__law_raised) (defBody s__law_raised) (defScope s__law_raised) .none kV__law_raised dc__law_raised pm__law_raised an__law_raised cd__law_raised ct__law_raised, _law_spoil := f__law_spoil, fd__law_spoil := PySem.W.fnOf "_law_spoil" "_law_spoil" (defArgs s__law_spoil) (defBody s__law_spoil) (defScope s__law_spoil) .none kV__law_spoil dc__law_spoil pm__law_spoil an__law_spoil cd__law_spoil ct__law_spoil, law := fa, fd_law := PySem.W.fnOf "law" "law" (defArgs s_law) (defBody s_law) (defScope s_law) .none kV_law dc_law pm_law an_law cd_law ct_law, _law_source := f__law_source, fd__law_source := PySem.W.fnOf "_law_source" "_law_source" (defArgs s__law_source) (defBody s__law_source) (defScope s__law_source) .none kV__law_source dc__law_source pm__law_source an__law_source cd__law_source ct__law_source, _law_draw := f__law_draw, fd__law_draw := PySem.W.fnOf "_law_draw" "_law_draw" (defArgs s__law_draw) (defBody s__law_draw) (defScope s__law_draw) .none kV__law_draw dc__law_draw pm__law_draw an__law_draw cd__law_draw ct__law_draw, InvalidInventory := q_InvalidInventory, LikeholesError := q_LikeholesError, UnknownSlot := q_UnknownSlot, i_InvalidInventory := fi_InvalidInventory, fi_InvalidInventory := PySem.W.fnOf "__init__" "InvalidInventory.__init__" (defArgs i_InvalidInventory) (defBody i_InvalidInventory) (defScope i_InvalidInventory) .none kV_InvalidInventory dc_InvalidInventory pm_InvalidInventory an_InvalidInventory cd_InvalidInventory ct_InvalidInventory }
  have M : Nm K mg A := { g_is_integer := (PySem.W.mg_of X G a_is_integer), f_is_integer := (fun_mk (st := s_is_integer) l_is_integer c_is_integer k_is_integer), z_is_integer := ((fun_mk (st := s_is_integer) l_is_integer c_is_integer k_is_integer).binds (ps := ["value"]) fun _ _ _ _ _ _ us hl => match us, hl with | [_], _ => rfl), g_is_word := (PySem.W.mg_of X G a_is_word), f_is_word := (fun_mk (st := s_is_word) l_is_word c_is_word k_is_word), z_is_word := ((fun_mk (st := s_is_word) l_is_word c_is_word k_is_word).binds (ps := ["value"]) fun _ _ _ _ _ _ us hl => match us, hl with | [_], _ => rfl), g_are_kinds := (PySem.W.mg_of X G a_are_kinds), f_are_kinds := (fun_mk (st := s_are_kinds) l_are_kinds c_are_kinds k_are_kinds), z_are_kinds := ((fun_mk (st := s_are_kinds) l_are_kinds c_are_kinds k_are_kinds).binds (ps := ["value", "least", "most"]) fun _ _ _ _ _ _ us hl => match us, hl with | [_, _, _], _ => rfl), g_is_item := (PySem.W.mg_of X G a_is_item), f_is_item := (fun_mk (st := s_is_item) l_is_item c_is_item k_is_item), z_is_item := ((fun_mk (st := s_is_item) l_is_item c_is_item k_is_item).binds (ps := ["items", "k"]) fun _ _ _ _ _ _ us hl => match us, hl with | [_, _], _ => rfl), g_all_kinds := (PySem.W.mg_of X G a_all_kinds), f_all_kinds := (fun_mk (st := s_all_kinds) l_all_kinds c_all_kinds k_all_kinds), z_all_kinds := ((fun_mk (st := s_all_kinds) l_all_kinds c_all_kinds k_all_kinds).binds (ps := ["inventory"]) fun _ _ _ _ _ _ us hl => match us, hl with | [_], _ => rfl), g_inventory_error := (PySem.W.mg_of X G a_inventory_error), f_inventory_error := (fun_mk (st := s_inventory_error) l_inventory_error c_inventory_error k_inventory_error), z_inventory_error := ((fun_mk (st := s_inventory_error) l_inventory_error c_inventory_error k_inventory_error).binds (ps := ["value"]) fun _ _ _ _ _ _ us hl => match us, hl with | [_], _ => rfl), g_check_inventory := (PySem.W.mg_of X G a_check_inventory), f_check_inventory := (fun_mk (st := s_check_inventory) l_check_inventory c_check_inventory k_check_inventory), z_check_inventory := ((fun_mk (st := s_check_inventory) l_check_inventory c_check_inventory k_check_inventory).binds (ps := ["inventory"]) fun _ _ _ _ _ _ us hl => match us, hl with | [_], _ => rfl), g_slot_kinds := (PySem.W.mg_of X G a_slot_kinds), f_slot_kinds := (fun_mk (st := s_slot_kinds) l_slot_kinds c_slot_kinds k_slot_kinds), z_slot_kinds := ((fun_mk (st := s_slot_kinds) l_slot_kinds c_slot_kinds k_slot_kinds).binds (ps := ["inventory"]) fun _ _ _ _ _ _ us hl => match us, hl with | [_], _ => rfl), g_item_kinds := (PySem.W.mg_of X G a_item_kinds), f_item_kinds := (fun_mk (st := s_item_kinds) l_item_kinds c_item_kinds k_item_kinds), z_item_kinds := ((fun_mk (st := s_item_kinds) l_item_kinds c_item_kinds k_item_kinds).binds (ps := ["inventory"]) fun _ _ _ _ _ _ us hl => match us, hl with | [_], _ => rfl), g_surplus := (PySem.W.mg_of X G a_surplus), f_surplus := (fun_mk (st := s_surplus) l_surplus c_surplus k_surplus), z_surplus := ((fun_mk (st := s_surplus) l_surplus c_surplus k_surplus).binds (ps := ["inventory"]) fun _ _ _ _ _ _ us hl => match us, hl with | [_], _ => rfl), g_is_slot := (PySem.W.mg_of X G a_is_slot), f_is_slot := (fun_mk (st := s_is_slot) l_is_slot c_is_slot k_is_slot), z_is_slot := ((fun_mk (st := s_is_slot) l_is_slot c_is_slot k_is_slot).binds (ps := ["inventory", "value"]) fun _ _ _ _ _ _ us hl => match us, hl with | [_, _], _ => rfl), g_check_slot := (PySem.W.mg_of X G a_check_slot), f_check_slot := (fun_mk (st := s_check_slot) l_check_slot c_check_slot k_check_slot), z_check_slot := ((fun_mk (st := s_check_slot) l_check_slot c_check_slot k_check_slot).binds (ps := ["inventory", "slot"]) fun _ _ _ _ _ _ us hl => match us, hl with | [_, _], _ => rfl), g_list_slots := (PySem.W.mg_of X G a_list_slots), f_list_slots := (fun_mk (st := s_list_slots) l_list_slots c_list_slots k_list_slots), z_list_slots := ((fun_mk (st := s_list_slots) l_list_slots c_list_slots k_list_slots).binds (ps := ["inventory"]) fun _ _ _ _ _ _ us hl => match us, hl with | [_], _ => rfl), g_slot_kind := (PySem.W.mg_of X G a_slot_kind), f_slot_kind := (fun_mk (st := s_slot_kind) l_slot_kind c_slot_kind k_slot_kind), z_slot_kind := ((fun_mk (st := s_slot_kind) l_slot_kind c_slot_kind k_slot_kind).binds (ps := ["inventory", "slot"]) fun _ _ _ _ _ _ us hl => match us, hl with | [_, _], _ => rfl), g_slot_surplus := (PySem.W.mg_of X G a_slot_surplus), f_slot_surplus := (fun_mk (st := s_slot_surplus) l_slot_surplus c_slot_surplus k_slot_surplus), z_slot_surplus := ((fun_mk (st := s_slot_surplus) l_slot_surplus c_slot_surplus k_slot_surplus).binds (ps := ["inventory"]) fun _ _ _ _ _ _ us hl => match us, hl with | [_], _ => rfl), g__law_pick := (PySem.W.mg_of X G a__law_pick), f__law_pick := (fun_mk (st := s__law_pick) l__law_pick c__law_pick k__law_pick), z__law_pick := ((fun_mk (st := s__law_pick) l__law_pick c__law_pick k__law_pick).binds (ps := ["_law_source_here", "_law_values"]) fun _ _ _ _ _ _ us hl => match us, hl with | [_, _], _ => rfl), g__law_shuffle := (PySem.W.mg_of X G a__law_shuffle), f__law_shuffle := (fun_mk (st := s__law_shuffle) l__law_shuffle c__law_shuffle k__law_shuffle), z__law_shuffle := ((fun_mk (st := s__law_shuffle) l__law_shuffle c__law_shuffle k__law_shuffle).binds (ps := ["_law_source_here", "_law_values"]) fun _ _ _ _ _ _ us hl => match us, hl with | [_, _], _ => rfl), g__law_items := (PySem.W.mg_of X G a__law_items), f__law_items := (fun_mk (st := s__law_items) l__law_items c__law_items k__law_items), z__law_items := ((fun_mk (st := s__law_items) l__law_items c__law_items k__law_items).binds (ps := ["_law_source_here", "_law_limit", "_law_kinds"]) fun _ _ _ _ _ _ us hl => match us, hl with | [_, _, _], _ => rfl), g__law_inventory := (PySem.W.mg_of X G a__law_inventory), f__law_inventory := (fun_mk (st := s__law_inventory) l__law_inventory c__law_inventory k__law_inventory), z__law_inventory := ((fun_mk (st := s__law_inventory) l__law_inventory c__law_inventory k__law_inventory).binds (ps := ["_law_source_here", "_law_limit"]) fun _ _ _ _ _ _ us hl => match us, hl with | [_, _], _ => rfl), g__law_slots := (PySem.W.mg_of X G a__law_slots), f__law_slots := (fun_mk (st := s__law_slots) l__law_slots c__law_slots k__law_slots), z__law_slots := ((fun_mk (st := s__law_slots) l__law_slots c__law_slots k__law_slots).binds (ps := ["_law_inventory_here"]) fun _ _ _ _ _ _ us hl => match us, hl with | [_], _ => rfl), g__law_accepted := (PySem.W.mg_of X G a__law_accepted), f__law_accepted := (fun_mk (st := s__law_accepted) l__law_accepted c__law_accepted k__law_accepted), z__law_accepted := ((fun_mk (st := s__law_accepted) l__law_accepted c__law_accepted k__law_accepted).binds (ps := ["_law_inventory_here"]) fun _ _ _ _ _ _ us hl => match us, hl with | [_], _ => rfl), g__law_surplus := (PySem.W.mg_of X G a__law_surplus), f__law_surplus := (fun_mk (st := s__law_surplus) l__law_surplus c__law_surplus k__law_surplus), z__law_surplus := ((fun_mk (st := s__law_surplus) l__law_surplus c__law_surplus k__law_surplus).binds (ps := ["_law_inventory_here"]) fun _ _ _ _ _ _ us hl => match us, hl with | [_], _ => rfl), g__law_changed := (PySem.W.mg_of X G a__law_changed), f__law_changed := (fun_mk (st := s__law_changed) l__law_changed c__law_changed k__law_changed), z__law_changed := ((fun_mk (st := s__law_changed) l__law_changed c__law_changed k__law_changed).binds (ps := ["_law_source_here", "_law_inventory_here"]) fun _ _ _ _ _ _ us hl => match us, hl with | [_, _], _ => rfl), g__law_raised := (PySem.W.mg_of X G a__law_raised), f__law_raised := (fun_mk (st := s__law_raised) l__law_raised c__law_raised k__law_raised), z__law_raised := ((fun_mk (st := s__law_raised) l__law_raised c__law_raised k__law_raised).binds (ps := ["_law_inventory_here", "_law_place"]) fun _ _ _ _ _ _ us hl => match us, hl with | [_, _], _ => rfl), g__law_spoil := (PySem.W.mg_of X G a__law_spoil), f__law_spoil := (fun_mk (st := s__law_spoil) l__law_spoil c__law_spoil k__law_spoil), z__law_spoil := ((fun_mk (st := s__law_spoil) l__law_spoil c__law_spoil k__law_spoil).binds (ps := ["_law_first", "_law_second"]) fun _ _ _ _ _ _ us hl => match us, hl with | [_, _], _ => rfl), g_law := (PySem.W.mg_of X G a_law), f_law := (fun_mk (st := s_law) l_law c_law k_law), z_law := ((fun_mk (st := s_law) l_law c_law k_law).binds (ps := ["_law_script"]) fun _ _ _ _ _ _ us hl => match us, hl with | [_], _ => rfl), g__law_source := (PySem.W.mg_of X G a__law_source), f__law_source := (fun_mk (st := s__law_source) l__law_source c__law_source k__law_source), z__law_source := ((fun_mk (st := s__law_source) l__law_source c__law_source k__law_source).binds (ps := ["_law_script"]) fun _ _ _ _ _ _ us hl => match us, hl with | [_], _ => rfl), g__law_draw := (PySem.W.mg_of X G a__law_draw), f__law_draw := (fun_mk (st := s__law_draw) l__law_draw c__law_draw k__law_draw), z__law_draw := ((fun_mk (st := s__law_draw) l__law_draw c__law_draw k__law_draw).binds (ps := ["_law_source_here", "_law_limit"]) fun _ _ _ _ _ _ us hl => match us, hl with | [_, _], _ => rfl), g_InvalidInventory := (PySem.W.mg_of X G a_InvalidInventory), g_LikeholesError := (PySem.W.mg_of X G a_LikeholesError), g_UnknownSlot := (PySem.W.mg_of X G a_UnknownSlot), bi_LikeholesError := (⟨b1_LikeholesError, b2_LikeholesError, b3_LikeholesError⟩), x_InvalidInventory := (⟨⟨⟨_, _, _, _, _, _, _, _, _, _, _, _, _, _, _, o_InvalidInventory, o2_InvalidInventory⟩, o3_InvalidInventory, e1_InvalidInventory, e2_InvalidInventory, e3_InvalidInventory⟩, i1_InvalidInventory, i2_InvalidInventory⟩), ii_InvalidInventory := (fun_mk (st := i_InvalidInventory) l_InvalidInventory c_InvalidInventory k_InvalidInventory), zi_InvalidInventory := ((fun_mk (st := i_InvalidInventory) l_InvalidInventory c_InvalidInventory k_InvalidInventory).binds (ps := ["self", "reason"]) fun _ _ _ _ _ _ us hl => match us, hl with | [_, _], _ => rfl), no_InvalidInventory := (n_InvalidInventory), x_UnknownSlot := (⟨m_UnknownSlot, e3_UnknownSlot, e1_UnknownSlot, e2_UnknownSlot⟩), ea_InvalidInventory := (⟨cls_some v6_InvalidInventory, v2_InvalidInventory, v3_InvalidInventory, e1_InvalidInventory, v4_InvalidInventory, w1, w2, v5_InvalidInventory, v6_InvalidInventory⟩), ea_UnknownSlot := (⟨cls_some v6_UnknownSlot, v2_UnknownSlot, v3_UnknownSlot, e1_UnknownSlot, v4_UnknownSlot, w1, w2, v5_UnknownSlot, v6_UnknownSlot⟩), te_LikeholesError := (tabEx_of (by intro p m; simp only [List.mem_cons, List.not_mem_nil, or_false] at m; rcases m with rfl | rfl; exact ⟨_, PySem.W.mg_of X G a_InvalidInventory, PySem.W.exm_ref e1_LikeholesError v6_LikeholesError e2_LikeholesError t_LikeholesError_InvalidInventory⟩; exact ⟨_, PySem.W.mg_of X G a_UnknownSlot, PySem.W.exm_ref e1_LikeholesError v6_LikeholesError e2_LikeholesError t_LikeholesError_UnknownSlot⟩)), ti_InvalidInventory := (tabIs_of (kit_own v6_InvalidInventory e2_InvalidInventory s_InvalidInventory u0_InvalidInventory) (by intro p m; simp only [List.mem_cons, List.not_mem_nil, or_false] at m; rcases m with rfl | rfl; exact ⟨_, PySem.W.mg_of X G a_InvalidInventory, ⟨cls_some v6_InvalidInventory, v2_InvalidInventory, v3_InvalidInventory, e1_InvalidInventory, v4_InvalidInventory, w1, w2, v5_InvalidInventory, v6_InvalidInventory⟩, kit_own v6_InvalidInventory e2_InvalidInventory s_InvalidInventory u_InvalidInventory_InvalidInventory⟩; exact ⟨_, PySem.W.mg_of X G a_UnknownSlot, ⟨cls_some v6_UnknownSlot, v2_UnknownSlot, v3_UnknownSlot, e1_UnknownSlot, v4_UnknownSlot, w1, w2, v5_UnknownSlot, v6_UnknownSlot⟩, kit_own v6_InvalidInventory e2_InvalidInventory s_InvalidInventory u_InvalidInventory_UnknownSlot⟩)), ti_UnknownSlot := (tabIs_of (kit_own v6_UnknownSlot e2_UnknownSlot s_UnknownSlot u0_UnknownSlot) (by intro p m; simp only [List.mem_cons, List.not_mem_nil, or_false] at m; rcases m with rfl | rfl; exact ⟨_, PySem.W.mg_of X G a_InvalidInventory, ⟨cls_some v6_InvalidInventory, v2_InvalidInventory, v3_InvalidInventory, e1_InvalidInventory, v4_InvalidInventory, w1, w2, v5_InvalidInventory, v6_InvalidInventory⟩, kit_own v6_UnknownSlot e2_UnknownSlot s_UnknownSlot u_UnknownSlot_InvalidInventory⟩; exact ⟨_, PySem.W.mg_of X G a_UnknownSlot, ⟨cls_some v6_UnknownSlot, v2_UnknownSlot, v3_UnknownSlot, e1_UnknownSlot, v4_UnknownSlot, w1, w2, v5_UnknownSlot, v6_UnknownSlot⟩, kit_own v6_UnknownSlot e2_UnknownSlot s_UnknownSlot u_UnknownSlot_UnknownSlot⟩)), ti_ValueError := (tabIs_of (kit_blt (by decide +kernel) (by rfl) u0_ValueError) (by intro p m; simp only [List.mem_cons, List.not_mem_nil, or_false] at m; rcases m with rfl | rfl; exact ⟨_, PySem.W.mg_of X G a_InvalidInventory, ⟨cls_some v6_InvalidInventory, v2_InvalidInventory, v3_InvalidInventory, e1_InvalidInventory, v4_InvalidInventory, w1, w2, v5_InvalidInventory, v6_InvalidInventory⟩, kit_blt (by decide +kernel) (by rfl) u_ValueError_InvalidInventory⟩; exact ⟨_, PySem.W.mg_of X G a_UnknownSlot, ⟨cls_some v6_UnknownSlot, v2_UnknownSlot, v3_UnknownSlot, e1_UnknownSlot, v4_UnknownSlot, w1, w2, v5_UnknownSlot, v6_UnknownSlot⟩, kit_blt (by decide +kernel) (by rfl) u_ValueError_UnknownSlot⟩)), c_LETTERS := (⟨_, PySem.W.mg_of X G d_LETTERS⟩), c_MAX_ITEMS := (⟨_, PySem.W.mg_of X G d_MAX_ITEMS⟩), c_MAX_KINDS := (⟨_, PySem.W.mg_of X G d_MAX_KINDS⟩), c_MAX_ROOTS := (⟨_, PySem.W.mg_of X G d_MAX_ROOTS⟩), c_MAX_SLOTS := (⟨_, PySem.W.mg_of X G d_MAX_SLOTS⟩), c_MAX_WORD := (⟨_, PySem.W.mg_of X G d_MAX_WORD⟩), b_ValueError := (PySem.W.mg_none_of X G z_ValueError), b_abs := (PySem.W.mg_none_of X G z_abs), b_all := (PySem.W.mg_none_of X G z_all), b_bool := (PySem.W.mg_none_of X G z_bool), b_enumerate := (PySem.W.mg_none_of X G z_enumerate), b_int := (PySem.W.mg_none_of X G z_int), b_isinstance := (PySem.W.mg_none_of X G z_isinstance), b_len := (PySem.W.mg_none_of X G z_len), b_list := (PySem.W.mg_none_of X G z_list), b_min := (PySem.W.mg_none_of X G z_min), b_range := (PySem.W.mg_none_of X G z_range), b_repr := (PySem.W.mg_none_of X G z_repr), b_set := (PySem.W.mg_none_of X G z_set), b_sorted := (PySem.W.mg_none_of X G z_sorted), b_str := (PySem.W.mg_none_of X G z_str), b_tuple := (PySem.W.mg_none_of X G z_tuple) }
  exact ⟨A.fd_law, fun s u => .of_eq rfl, fun base _ _ => ok_law M math⟩
end K02
open PySem PySem.W PyProof.Rows
set_option maxHeartbeats 0 in
theorem PySem.Challenge.cw_likeholes_k02_slots_and_kinds_holds : PySem.Challenge.rw_likeholes_k02_slots_and_kinds.Holds := by
  w_on; o_law; k_head; (case hw => w_witness2)
  k_fill
  refine L2.HL.walk_G (l := PySem.Challenge.rw_likeholes_k02_slots_and_kinds) (k := 8) (x := "_law_script") rfl rfl ⟨rfl, by decide, by decide⟩ (fun w h Y => PySem.W.kIn_of Y) ?F
  case F =>
    intro w mg fa h KX G hmg
    refine' K02.all_mk KX G hmg K02.math_law ?a_is_integer ?l_is_integer ?c_is_integer ?k_is_integer ?a_is_word ?l_is_word ?c_is_word ?k_is_word ?a_are_kinds ?l_are_kinds ?c_are_kinds ?k_are_kinds ?a_is_item ?l_is_item ?c_is_item ?k_is_item ?a_all_kinds ?l_all_kinds ?c_all_kinds ?k_all_kinds ?a_inventory_error ?l_inventory_error ?c_inventory_error ?k_inventory_error ?a_check_inventory ?l_check_inventory ?c_check_inventory ?k_check_inventory ?a_slot_kinds ?l_slot_kinds ?c_slot_kinds ?k_slot_kinds ?a_item_kinds ?l_item_kinds ?c_item_kinds ?k_item_kinds ?a_surplus ?l_surplus ?c_surplus ?k_surplus ?a_is_slot ?l_is_slot ?c_is_slot ?k_is_slot ?a_check_slot ?l_check_slot ?c_check_slot ?k_check_slot ?a_list_slots ?l_list_slots ?c_list_slots ?k_list_slots ?a_slot_kind ?l_slot_kind ?c_slot_kind ?k_slot_kind ?a_slot_surplus ?l_slot_surplus ?c_slot_surplus ?k_slot_surplus ?a__law_pick ?l__law_pick ?c__law_pick ?k__law_pick ?a__law_shuffle ?l__law_shuffle ?c__law_shuffle ?k__law_shuffle ?a__law_items ?l__law_items ?c__law_items ?k__law_items ?a__law_inventory ?l__law_inventory ?c__law_inventory ?k__law_inventory ?a__law_slots ?l__law_slots ?c__law_slots ?k__law_slots ?a__law_accepted ?l__law_accepted ?c__law_accepted ?k__law_accepted ?a__law_surplus ?l__law_surplus ?c__law_surplus ?k__law_surplus ?a__law_changed ?l__law_changed ?c__law_changed ?k__law_changed ?a__law_raised ?l__law_raised ?c__law_raised ?k__law_raised ?a__law_spoil ?l__law_spoil ?c__law_spoil ?k__law_spoil ?a_law ?l_law ?c_law ?k_law ?a__law_source ?l__law_source ?c__law_source ?k__law_source ?a__law_draw ?l__law_draw ?c__law_draw ?k__law_draw ?a_InvalidInventory ?a_LikeholesError ?a_UnknownSlot ?b1_LikeholesError ?b2_LikeholesError ?b3_LikeholesError ?e1_InvalidInventory ?e2_InvalidInventory ?e3_InvalidInventory ?o_InvalidInventory ?o2_InvalidInventory ?o3_InvalidInventory ?i1_InvalidInventory ?i2_InvalidInventory ?l_InvalidInventory ?c_InvalidInventory ?k_InvalidInventory ?n_InvalidInventory ?e1_UnknownSlot ?e2_UnknownSlot ?e3_UnknownSlot ?m_UnknownSlot ?w1 ?w2 ?v2_InvalidInventory ?v3_InvalidInventory ?v4_InvalidInventory ?v5_InvalidInventory ?v6_InvalidInventory ?v2_UnknownSlot ?v3_UnknownSlot ?v4_UnknownSlot ?v5_UnknownSlot ?v6_UnknownSlot ?e1_LikeholesError ?e2_LikeholesError ?v6_LikeholesError ?t_LikeholesError_InvalidInventory ?t_LikeholesError_UnknownSlot ?u0_InvalidInventory ?s_InvalidInventory ?u_InvalidInventory_InvalidInventory ?u_InvalidInventory_UnknownSlot ?u0_UnknownSlot ?s_UnknownSlot ?u_UnknownSlot_InvalidInventory ?u_UnknownSlot_UnknownSlot ?u0_ValueError ?u_ValueError_InvalidInventory ?u_ValueError_UnknownSlot ?d_LETTERS ?d_MAX_ITEMS ?d_MAX_KINDS ?d_MAX_ROOTS ?d_MAX_SLOTS ?d_MAX_WORD ?z_ValueError ?z_abs ?z_all ?z_bool ?z_enumerate ?z_int ?z_isinstance ?z_len ?z_list ?z_min ?z_range ?z_repr ?z_set ?z_sorted ?z_str ?z_tuple
    (case a_is_integer => k_is); (case l_is_integer => k_is); (case c_is_integer => k_is); (case k_is_integer => k_is); (case a_is_word => k_is); (case l_is_word => k_is); (case c_is_word => k_is); (case k_is_word => k_is); (case a_are_kinds => k_is); (case l_are_kinds => k_is); (case c_are_kinds => k_is); (case k_are_kinds => k_is); (case a_is_item => k_is); (case l_is_item => k_is); (case c_is_item => k_is); (case k_is_item => k_is); (case a_all_kinds => k_is); (case l_all_kinds => k_is); (case c_all_kinds => k_is); (case k_all_kinds => k_is); (case a_inventory_error => k_is); (case l_inventory_error => k_is); (case c_inventory_error => k_is); (case k_inventory_error => k_is); (case a_check_inventory => k_is); (case l_check_inventory => k_is); (case c_check_inventory => k_is); (case k_check_inventory => k_is); (case a_slot_kinds => k_is); (case l_slot_kinds => k_is); (case c_slot_kinds => k_is); (case k_slot_kinds => k_is); (case a_item_kinds => k_is); (case l_item_kinds => k_is); (case c_item_kinds => k_is); (case k_item_kinds => k_is); (case a_surplus => k_is); (case l_surplus => k_is); (case c_surplus => k_is); (case k_surplus => k_is); (case a_is_slot => k_is); (case l_is_slot => k_is); (case c_is_slot => k_is); (case k_is_slot => k_is); (case a_check_slot => k_is); (case l_check_slot => k_is); (case c_check_slot => k_is); (case k_check_slot => k_is); (case a_list_slots => k_is); (case l_list_slots => k_is); (case c_list_slots => k_is); (case k_list_slots => k_is); (case a_slot_kind => k_is); (case l_slot_kind => k_is); (case c_slot_kind => k_is); (case k_slot_kind => k_is); (case a_slot_surplus => k_is); (case l_slot_surplus => k_is); (case c_slot_surplus => k_is); (case k_slot_surplus => k_is); (case a__law_pick => k_is); (case l__law_pick => k_is); (case c__law_pick => k_is); (case k__law_pick => k_is); (case a__law_shuffle => k_is); (case l__law_shuffle => k_is); (case c__law_shuffle => k_is); (case k__law_shuffle => k_is); (case a__law_items => k_is); (case l__law_items => k_is); (case c__law_items => k_is); (case k__law_items => k_is); (case a__law_inventory => k_is); (case l__law_inventory => k_is); (case c__law_inventory => k_is); (case k__law_inventory => k_is); (case a__law_slots => k_is); (case l__law_slots => k_is); (case c__law_slots => k_is); (case k__law_slots => k_is); (case a__law_accepted => k_is); (case l__law_accepted => k_is); (case c__law_accepted => k_is); (case k__law_accepted => k_is); (case a__law_surplus => k_is); (case l__law_surplus => k_is); (case c__law_surplus => k_is); (case k__law_surplus => k_is); (case a__law_changed => k_is); (case l__law_changed => k_is); (case c__law_changed => k_is); (case k__law_changed => k_is); (case a__law_raised => k_is); (case l__law_raised => k_is); (case c__law_raised => k_is); (case k__law_raised => k_is); (case a__law_spoil => k_is); (case l__law_spoil => k_is); (case c__law_spoil => k_is); (case k__law_spoil => k_is); (case a_law => k_is); (case l_law => k_is); (case c_law => k_is); (case k_law => k_is); (case a__law_source => k_is); (case l__law_source => k_is); (case c__law_source => k_is); (case k__law_source => k_is); (case a__law_draw => k_is); (case l__law_draw => k_is); (case c__law_draw => k_is); (case k__law_draw => k_is); (case a_InvalidInventory => k_is); (case a_LikeholesError => k_is); (case a_UnknownSlot => k_is); (case b1_LikeholesError => k_is); (case b2_LikeholesError => k_is); (case b3_LikeholesError => k_is); (case e1_InvalidInventory => k_is); (case e2_InvalidInventory => k_is); (case e3_InvalidInventory => k_is); (case o_InvalidInventory => k_is); (case o2_InvalidInventory => decide +kernel); (case o3_InvalidInventory => k_is); (case i1_InvalidInventory => k_is); (case i2_InvalidInventory => k_is); (case l_InvalidInventory => k_is); (case c_InvalidInventory => k_is); (case k_InvalidInventory => k_is); (case n_InvalidInventory => k_is); (case e1_UnknownSlot => k_is); (case e2_UnknownSlot => k_is); (case e3_UnknownSlot => k_is); (case m_UnknownSlot => k_exc); (case w1 => k_is); (case w2 => k_is); (case v2_InvalidInventory => k_is); (case v3_InvalidInventory => k_is); (case v4_InvalidInventory => k_is); (case v5_InvalidInventory => k_is); (case v6_InvalidInventory => k_is); (case v2_UnknownSlot => k_is); (case v3_UnknownSlot => k_is); (case v4_UnknownSlot => k_is); (case v5_UnknownSlot => k_is); (case v6_UnknownSlot => k_is); (case e1_LikeholesError => k_is); (case e2_LikeholesError => k_is); (case v6_LikeholesError => k_is); (case t_LikeholesError_InvalidInventory => k_is); (case t_LikeholesError_UnknownSlot => k_is); (case u0_InvalidInventory => k_is); (case s_InvalidInventory => k_is); (case u_InvalidInventory_InvalidInventory => k_is); (case u_InvalidInventory_UnknownSlot => k_is); (case u0_UnknownSlot => k_is); (case s_UnknownSlot => k_is); (case u_UnknownSlot_InvalidInventory => k_is); (case u_UnknownSlot_UnknownSlot => k_is); (case u0_ValueError => k_is); (case u_ValueError_InvalidInventory => k_is); (case u_ValueError_UnknownSlot => k_is); (case d_LETTERS => k_is); (case d_MAX_ITEMS => k_is); (case d_MAX_KINDS => k_is); (case d_MAX_ROOTS => k_is); (case d_MAX_SLOTS => k_is); (case d_MAX_WORD => k_is); (case z_ValueError => k_is); (case z_abs => k_is); (case z_all => k_is); (case z_bool => k_is); (case z_enumerate => k_is); (case z_int => k_is); (case z_isinstance => k_is); (case z_len => k_is); (case z_list => k_is); (case z_min => k_is); (case z_range => k_is); (case z_repr => k_is); (case z_set => k_is); (case z_sorted => k_is); (case z_str => k_is); (case z_tuple => k_is)

